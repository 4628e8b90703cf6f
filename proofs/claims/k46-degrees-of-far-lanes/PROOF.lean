import PyProof.Rows.All
import Wide.All
import OpenK.AllK
import Wide.FinOn
import HandS.ForMost
import HandS.ForExc
import HandS.CallSlots
import HandS.Wide
import HandS.Flow
import HandS.Walk
import HandS.Nested
import HandS.TupAny
import HandS.RaiseMore
import HandS.Conv
import HandS.Deep
import PyProof.SumWalkG
import PyProof.Rows.SumAny
import PyProof.TwoTypesSub
import HandS.TryOnly
import HandS.Style
import KE.KExcSuper
import HandS.Exc
import HandS.IsInst
import HandS.Codes
import HandS.Zip
import HandS.WideBits
import HandS.Star
import PyProof.LongRange
import HandS.More
import HandS.Dict
import HandS.HeadHook3
import PyProof.MeetsDict
import HandS.Iter
import HandS.Text
import HandS.Defaults
import PyProof.ListRange
import KE.GoesMore
import PyProof.AutoSeq1
import HandS.Spec
import HandS.Property
import OpenK.KOps
import PyProof.InstNe
import HandS.SortInts
import HandS.SortRule
import KE.KIntText
import PyProof.StrBlock2
import HandS.SetFor
import PyProof.Rows.SortShellAny
import HandS.HotCalls
import HandS.ExcField
import HandS.ExcValue
import KE.KExcIs
import HandS.ExcIs
import HandS.MapJoin
import PySem.Challenge.RW_stridelanes_k46_degrees_of_far_lanes
set_option Elab.async false
set_option linter.all false
set_option maxRecDepth 100000
set_option maxHeartbeats 4000000
/-! PLG: promises of defs that are called where nothing is being shown (no repr runs around): what repr asks. -/
namespace PL
open PySem PySem.Spec PyProof.Rows L2
/-- as FnOk, at calls around which no guard of repr is open -/
structure FnG (P : Program) (w : World) (K : PySem.W.Frag) (mg : Str → Option Value) (base : Heap) (Cn : CXT) (k : Nat) (f : Addr) (fd : FuncData) (ps : List Str) (sp : Sp) : Prop where
  gl : ∀ vs H Q E, sp vs H Q E → vs.length = ps.length
  go : ∀ (A : Around) (outer : List Env) (s : Shared) (H : Hp) (args : Args) (us : List Value) (vs : List V) (Q : VK) (E : XK),
    Room k A → A.guards = some [] → Env0 P w K mg base A outer s H → BindsTo s fd args (ps.zip us) → Vals vs us → sp vs H Q E →
      codeAny (model P w) A (.call (.ref f) args) (CR Cn outer P w H s Q E) s
theorem FnG.mono {P : Program} {w : World} {K : PySem.W.Frag} {mg : Str → Option Value} {base : Heap} {Cn : CXT} {j k : Nat} {f : Addr} {fd : FuncData} {ps : List Str} {sp : Sp}
    (F : FnG P w K mg base Cn j f fd ps sp) (h : j ≤ k) : FnG P w K mg base Cn k f fd ps sp :=
  ⟨F.gl, fun A outer s H args us vs Q E room => F.go A outer s H args us vs Q E (room.mono h)⟩
section
variable {P : Program} {w : World} {K : PySem.W.Frag} {mg : Str → Option Value} {base : Heap}
/-- a def of the text keeps its promise -/
theorem fng_of {Cn : CXT} {k : Nat} {x qual : Str} {st : Stmt} {f : Addr} {fd : FuncData} {N ps : List Str} {sp : Sp} (F : Fun K x qual st f fd) (S : FnScope N ps (defScope st))
    (gl : ∀ vs H Q E, sp vs H Q E → vs.length = ps.length)
    (hbody : ∀ (cdv : Value) (A : Around) (outer : List Env) (s : Shared) (H : Hp) (vs : List V) (Q : VK) (E : XK), Room k (A.deeper (envOfC qual (defScope st) s.heap.objs.size f cdv)) →
      A.guards = some [] → sp vs H Q E → ∃ t, PSs (cxOf Cn P w K mg base N qual (defScope st) f cdv A outer s H E) (defBody st) t ∧ t { nx := fun _ H' => Q .non H', rt := Q } (start N vs) H) :
    FnG P w K mg base Cn (k + 1) f fd ps sp := by
  obtain ⟨oc, od, kV, doc, pm, an, cdv, ct, osl, rfl, lk, cod⟩ := F.ex
  refine ⟨gl, ?_⟩
  intro A outer s H args us vs Q E room gu e0 bnd rel hsp
  have hlen := gl _ _ _ _ hsp
  have inK : K.In s.heap := e0.mod.kin.keeps fun a u q => (e0.bs a u q).1
  have nolim : s.heap.NoLimit := e0.mod.nolimit.keeps fun a u q => (e0.bs a u q).1
  have kinds : ∀ y ∈ ps.zip us, (defScope st).names.lookup y.1 = some .local ∨
      ((defScope st).names.lookup y.1 = some .cell ∧ ((cellsFrom (s.heap.objs.size + 1) (defScope st).names []).lookup y.1).isSome = true) := by
    rintro ⟨n, v⟩ hy
    cases S.par n (List.of_mem_zip hy).1 with
    | inl z => exact .inl z
    | inr z => exact .inr ⟨z, PySem.W.cellsFrom_some _ _ _ (.inl z)⟩
  refine codeAny_call_function room.depth (inK _ _ lk) rfl S.co S.gen rfl (PySem.W.codeRec_of inK cod) (bnd _ _ _ _ ?_)
  refine wpAny_newFunctionEnv_cells S.kind kinds ?_
  intro env he s1 made
  subst he
  refine ⟨nolim.keeps made.toInCall.keep, codeAny_func ?_⟩
  obtain ⟨t, tr, tq⟩ := hbody cdv A outer s H vs Q E (room.deeper _) gu hsp
  have I0 := inv_start (CX := Cn) (E := E) S room.hd e0 hlen rel made
  refine wpAny_mono (tr.run [] s1 (start N vs) H _ I0 tq) ?_ fun e s' z => z
  intro fl s' end'
  cases fl with
  | brk => obtain ⟨_, _, _, z⟩ := end'; exact z.elim
  | cont => obtain ⟨_, _, _, z⟩ := end'; exact z.elim
  | next =>
    obtain ⟨σ', H', J, z⟩ := end'
    exact ⟨.non, H', J.os, J.bare, J.base, J.hok, rfl, z⟩
  | ret u =>
    obtain ⟨v, σ', H', J, rv, z⟩ := end'
    exact ⟨v, H', J.os, J.bare, J.base, J.hok, rv, z⟩
end
section
variable {X : Cx} {Cn : CXT} {k : Nat} {f : Addr} {fd : FuncData} {ps : List Str} {sp : Sp} {dvs : List V} {ds : List Value} {E : L2.St → XK} {x : Str} {p pos : Pos} {e : Expr} {es : List Expr} {t : TA}
theorem cr_ep {pins : List (Addr × Obj)} {σ : L2.St} {H : Hp} {s : Shared} {Q : VK} {D : XK} (hx : PassesAt Cn X σ D) (I : Inv X pins σ H s) {r : Result} {s' : Shared} (h : CR Cn X.stack X.prog X.w H s Q D r s') :
    match r with
    | .ok (.ret u) => EP X pins σ Q u s'
    | .ok _ => False
    | .error er => X.xe er s' := by
  cases r with
  | error er => exact hx pins H s er s' I h
  | ok fl => cases fl with
    | ret u => exact I.after h
    | next => exact h
    | brk => exact h
    | cont => exact h
theorem run_fng {pins : List (Addr × Obj)} {σ : L2.St} {H : Hp} {s : Shared} {Q : VK} {us : List Value} {vs : List V} (F : FnG X.prog X.w X.K X.mg X.base Cn k f fd ps sp) (room : Room k X.A) (gu : X.A.guards = some [])
    (hb : Binds X.K fd ps ds) (hd : Vals dvs ds) (hx : PassesAt Cn X σ (E σ)) (I : Inv X pins σ H s) (rel : Vals vs us) (h : sp (vs ++ dvs) H Q (E σ)) :
    wpAny (model X.prog X.w) X.A (call (.ref f) us) (EP X pins σ Q) X.xe s := by
  have rel2 : Vals (vs ++ dvs) (us ++ ds) := rel.append hd
  have n2 : (us ++ ds).length = ps.length := by rw [← rel2.length]; exact F.gl _ _ _ _ h
  refine wpAny_call (codeAny_mono (F.go X.A X.stack s H ⟨us, []⟩ (us ++ ds) (vs ++ dvs) Q (E σ) room gu I.env0 (hb s us I.kIn n2) rel2 h) ?_)
  intro r s' z
  have q := cr_ep hx I z
  cases r with
  | error er => exact q
  | ok fl => cases fl <;> first | exact q | exact q.elim
def tCallG (sp : Sp) (dvs : List V) (E : L2.St → XK) (t : TA) : TE := fun σ H Q => t σ H fun vs H1 => sp (vs ++ dvs) H1 Q (E σ)
theorem pe_callG (F : FnG X.prog X.w X.K X.mg X.base Cn k f fd ps sp) (room : Room k X.A) (gu : X.A.guards = some []) (hg : Gl X x) (hm : X.mg x = some (.ref f)) (hk : PySem.W.keepIn X.K (.ref f) = true)
    (hb : Binds X.K fd ps ds) (hd : Vals dvs ds) (hx : ∀ σ, PassesAt Cn X σ (E σ)) (ha : PA X (e :: es) t) (hdb : (x == ("__debug__" : Str)) = false)
    (he : starEach (e :: es) X.env = (false, eval e X.env) :: starEach es X.env) (hpl : (backTo pos (starEach es X.env)).any (·.1) = false) :
    PE X (.Call (.Name x p) (e :: es) [] pos) (tCallG sp dvs E t) := by
  refine ⟨?_⟩
  intro pins s σ H Q I h
  refine wpAny_Call_Name_kw (ld_glob I hg hm ?_ hdb)
  refine PySem.W.callWith_K (h₀ := X.base) I.ok.mod.kin hk (thn (ha.run pos pins s σ H _ I h) ?_) he hpl
  rintro us s1 ⟨vs, H1, I1, rel, q⟩
  exact ⟨I1.kIn, run_fng F room gu hb hd (hx σ) I1 rel q⟩
end
/-! ### the law itself -/
/-- the heap as the law finds it: the script alone is tracked, and locked -/
def hp0 (a : Addr) (o : Obj) (xs : List V) : Hp := fun b => if b = a then some (.frz o (.lst xs)) else none
theorem law_callG {P : Program} {w : World} {K : PySem.W.Frag} {mg mb : Str → Option Value} {Cn : CXT} {k : Nat} {fa a : Addr} {fd : FuncData} {x : Str} {sp : Sp} {s : Shared} {vs : List Value} {ns : List Int}
    (inK : K.In s.heap) (nm : s.heap.Ns mainGlobals mg) (nb : s.heap.Ns builtinsNs mb) (hbb : ∀ y : Str, y ≠ "__name__" → mb y = bootBuiltins y) (lim : s.heap.NoLimit) (gen0 : s.gens = #[])
    (obj : s.heap.get? a = some { cls := .type "list", data := .seq vs.toArray }) (isn : IntsAre vs ns) (small : ns.length ≤ sizeLine) (room : Room k callerA)
    (F : ∀ base : Heap, K.In base → base.Ns mainGlobals mg → FnG P w K mg base Cn k fa fd [x] sp) (bnd : ∀ (s : Shared) (u : Value), BindsTo s fd ⟨[u], []⟩ [(x, u)])
    (hsp : ∀ H : Hp, Only H → SqL K H a (ns.map V.int) → sp [.ref a] H (fun v _ => v = .bl true) fun _ _ _ => False)
    (hCn : ∀ H e s', Cn [] H s (fun _ _ _ => False) e s' → False) :
    codeAny (model P w) callerA (.call (.ref fa) ⟨[.ref a], []⟩) (fun r s' => r = .ok (.ret (.bool true)) ∧ OldK s.heap s'.heap ∧ s'.os = s.os ∧ AllBare s'.gens) s := by
  have rel : Vals (ns.map V.int) vs := L2.vals_ints isn
  have go : ∀ H : Hp, Only H → SqL K H a (ns.map V.int) → HOk P w H s.heap → (∀ b u, H b = some u → b = a ∧ K.lookup a = none) →
      codeAny (model P w) callerA (.call (.ref fa) ⟨[.ref a], []⟩) (fun r s' => r = .ok (.ret (.bool true)) ∧ OldK s.heap s'.heap ∧ s'.os = s.os ∧ AllBare s'.gens) s := by
    intro H only sq held one
    have notDict : ∀ {b : Addr} {o : Obj} {es : Array DictEntry} {ep : Nat}, s.heap.get? b = some o → o.data = .dict es ep → H b = none := by
      intro b o es ep e d
      cases q : H b with
      | none => rfl
      | some u =>
        rw [(one b u q).1, obj] at e
        cases e
        cases d
    have ns' : ∀ {b : Addr} {m : Str → Option Value}, s.heap.Ns b m → (hidT s.heap H).Ns b m := by
      rintro b m ⟨o, es, ep, e, d, r⟩
      exact ⟨o, es, ep, hidT_get e (notDict e d), d, r⟩
    have inB : K.In (hidT s.heap H) := by
      intro b o e
      refine hidT_get (inK b o e) ?_
      cases q : H b with
      | none => rfl
      | some u =>
        obtain ⟨e1, e2⟩ := one b u q
        rw [e1, e2] at e
        cases e
    have md : Mod K mg (hidT s.heap H) := ⟨inB, ns' nm, ⟨mb, ns' nb, hbb⟩, by obtain ⟨mc, c1, c2⟩ := lim; exact ⟨mc, ns' c1, c2⟩⟩
    have e0 : Env0 P w K mg (hidT s.heap H) callerA [] s H :=
      ⟨rfl, md, fun b o e => of_hidT e, Nat.le_of_eq (hidT_size _ _), trivial, fun b hb => by simp [frs] at hb, held, .of_eq gen0⟩
    refine codeAny_mono ((F _ inB (ns' nm)).go callerA [] s H ⟨[.ref a], []⟩ [.ref a] [.ref a] _ _ room rfl e0 (bnd s (.ref a)) (.cons rfl .nil) (hsp H only sq)) ?_
    intro r s' h
    cases r with
    | error e => exact (hCn H e s' h).elim
    | ok fl =>
      cases fl with
      | ret u =>
        obtain ⟨v, H', os, bare, un, held', rv, (q : v = .bl true)⟩ := h
        subst q
        cases rv
        refine ⟨rfl, OldK.of_keep ?_, os, bare⟩
        intro b o e
        cases q : H b with
        | none => exact un.keep b o e q (by simp [frs]) (by simp)
        | some u =>
          rcases only b with z | ⟨ob, xs, z⟩
          · rw [q] at z; cases z
          · obtain ⟨e1, _⟩ := held b _ z
            obtain ⟨e2, _⟩ := held' b _ (un.frzs b ob _ z)
            rw [e] at e1
            cases e1
            exact e2
      | next => exact False.elim h
      | brk => exact False.elim h
      | cont => exact False.elim h
  cases hk : K.lookup a with
  | some o =>
    have e := inK a o hk
    rw [obj] at e
    cases e
    refine go (fun _ => none) (fun _ => .inl rfl) (.inr ⟨_, vs.toArray, _, hk, rfl, rfl, rfl, ?_, by simpa using rel⟩) (fun b u z => nomatch z) (fun b u z => nomatch z)
    rw [List.size_toArray, isn.length]
    exact small
  | none =>
    have at_a : hp0 a { cls := .type "list", data := .seq vs.toArray } (ns.map V.int) a = some (.frz { cls := .type "list", data := .seq vs.toArray } (.lst (ns.map V.int))) := if_pos rfl
    have only_a : ∀ b u, hp0 a { cls := .type "list", data := .seq vs.toArray } (ns.map V.int) b = some u → b = a := fun b u z => by
      by_cases hb : b = a
      · exact hb
      · have z2 : (none : Option HO) = some u := (if_neg hb).symm.trans z
        cases z2
    refine go (hp0 a { cls := .type "list", data := .seq vs.toArray } (ns.map V.int)) (fun b => ?_) (.inl (.inr ⟨_, at_a⟩)) (fun b u z => ?_) fun b u z => ⟨only_a b u z, hk⟩
    · by_cases hb : b = a
      · exact .inr ⟨_, _, if_pos hb⟩
      · exact .inl (if_neg hb)
    · have hb := only_a b u z
      subst hb
      rw [at_a] at z
      cases z
      exact ⟨obj, by rw [List.length_map]; exact small, vs, _, rel, obj⟩
/-- the goal behind the head -/
theorem walk_ofG {l : PySem.W.OpenLaw} {n k : Nat} {q : Program} {loose : List Str} {XP : (Str → Option Value) → Heap → Prop} {YP : World → Heap → Prop} {d : DefRec} {K : Params → PySem.W.Frag} {Cn : World → CXT} {sp : World → Sp} {x : Str}
    (hn : l.most = some n) (hn2 : n ≤ sizeLine) (hdf : d.params.defaults = []) (room : Room k callerA) (hY : ∀ (w : World) (h : Heap), YP w h → (K w.params).In h)
    (F : ∀ (w : World) (mg : Str → Option Value) (fa : Addr) (h : Heap), (K w.params).In h → h.Ns mainGlobals mg → mg d.name = some (.ref fa) →
      ∃ fd : FuncData, (∀ (s : Shared) (u : Value), BindsTo s fd ⟨[u], []⟩ [(x, u)]) ∧ ∀ base : Heap, (K w.params).In base → base.Ns mainGlobals mg → FnG l.prog w (K w.params) mg base (Cn w) k fa fd [x] (sp w))
    (hsp : ∀ (w : World) (H : Hp) (a : Addr) (ns : List Int), ns.length ≤ n → Only H → SqL (K w.params) H a (ns.map V.int) → sp w [.ref a] H (fun v _ => v = .bl true) fun _ _ _ => False)
    (hCn : ∀ (w : World) (H : Hp) (s : Shared) (e : Value) (s' : Shared), Cn w [] H s (fun _ _ _ => False) e s' → False) : PySem.W.WalkO q loose XP YP l.row.toRowW d [] (fun f vs => PySem.call f vs) := by
  refine Att.attach_call hn hdf ?_
  intro w s0 s1 mg mb fa o pm cd doc a vs ns G Y ho hd hcd hmg hobj hints hlen hg
  have inK := hY w _ Y
  obtain ⟨fd, bnd, hF⟩ := F w mg fa _ inK G.T.g hmg
  exact law_callG inK G.T.g G.T.b G.T.builtins G.T.nolimit hg hobj hints (Nat.le_trans hlen hn2) room hF bnd (fun H hO hS => hsp w H a ns hlen hO hS) fun H e s' => hCn w H s1 e s'
end PL
/-! PL1: plain values over the hand layer: what stands for what, the state, the judgement of expressions. -/
namespace PL
open PySem PySem.Spec PyProof.Rows L2
/-- a plain value: data that nobody changes; scr: a list that may be read alone (the script) -/
inductive PV where
  | non | bl (b : Bool) | int (i : Int) | str (x : Str)
  | tup (l : List PV) | lst (l : List PV) | scr (l : List PV)
  | ins (c : Str) (fs : List (Str × PV))
  | fnp
  | exi (c : Str) (v : PV)
  | dcv (ks : List Key) (vs : List PV)
/-- an object that is changed in place -/
inductive MO where
  | lst (l : List PV)
  | ins (c : Str) (fs : List (Str × PV))
  | dct (kvs : List (Key × PV))
  | lls (ls : List (List PV))
  | bag (g : List Int) (left turn blend : Int)
/-- what a slot holds: a plain value, an object that this slot alone knows, or the k-th object that was lent to the def -/
inductive SV where
  | val (v : PV) | own (m : MO) | bor (k : Nat)
structure Stt where
  ro : List (Option SV)
  mu : List MO
/-- fa: the function that a def got (PV.fnp); F0: plain things that stood at the entry -/
structure Fx where
  K : PySem.W.Frag
  cl : Str → Addr
  nb : Nat
  be : Nat → Addr
  Bf : Nat → List Addr
  fa : Addr := 0
  F0 : Hp := fun _ => none
/-- the defs that make lambdas; where their code objects' tables lie is told by cl -/
def tabNames : List Str := ["pair_at", "race_at", "least_harmful", "order_in"]
def tabKey (q : Str) : Str := "<" ++ q
/-- the tables: what they tell are code objects, which are plain things -/
def TabOk (cl : Str → Addr) (F H : Hp) : Prop := ∀ q ∈ tabNames, cl (tabKey q) ≠ 0 → F (cl (tabKey q)) = none ∧ ∃ ps : Array Value, H (cl (tabKey q)) = some (.tbl ps) ∧ TriplesOk ps.toList ∧
  ∀ (pos : Pos) (cv : Value), codeAmong pos ps.toList = some cv → ∃ c, cv = .ref c ∧ F c = some (LamX.CodeO c ((q ++ ".<locals>.") ++ "<lambda>"))
/-- a table, a code object, a function -/
def Tbx : HO → Prop
  | .tbl _ => True
  | .ext _ => True
  | _ => False
theorem Tbx.tbl {o : HO} (h : ¬ Tbx o) : ∀ ps, o ≠ .tbl ps := fun ps e => h (by rw [e]; trivial)
theorem TabOk.off {cl : Str → Addr} {F F' H H' : Hp} (t : TabOk cl F H) (sF : Same F F') (n : ∀ b ps, H b = some (.tbl ps) → F b = none → F' b = none) (e : ∀ b o, Tbx o → H b = some o → H' b = some o) : TabOk cl F' H' := fun q hq h => by
  obtain ⟨h0, ps, h1, h2, h3⟩ := t q hq h
  refine ⟨n _ _ h1 h0, ps, e _ _ trivial h1, h2, fun pos cv hc => ?_⟩
  obtain ⟨c, e1, e2⟩ := h3 pos cv hc
  exact ⟨c, e1, sF _ _ e2⟩
theorem TabOk.off0 {cl : Str → Addr} {F H H' : Hp} (t : TabOk cl F H) (e : ∀ b o, Tbx o → H b = some o → H' b = some o) : TabOk cl F H' := t.off (fun _ _ h => h) (fun _ _ _ h => h) e
theorem TabOk.ext0 {cl : Str → Addr} {F H H' : Hp} (t : TabOk cl F H) (e : ∀ b o, H b = some o → H' b = some o) : TabOk cl F H' := t.off0 fun b o _ => e b o
/-- an exception object of the class cls, its dict at d, raised or not, that nobody raises again -/
def ExV (cls : Value) (d a : Addr) : HO := .ext fun h => ∃ (oe : Obj) (vs : Array Value), h.get? a = some oe ∧ Zc cls (some d) oe ∧ oe.data = .fields vs
mutual
inductive Rp (C : Fx) (F : Hp) : V → PV → Prop
  | non : Rp C F .non .non
  | bl (b : Bool) : Rp C F (.bl b) (.bl b)
  | int (i : Int) : Rp C F (.int i) (.int i)
  | str (x : Str) : Rp C F (.str x) (.str x)
  | tup {a : Addr} {xs : List V} {l : List PV} : SqT C.K F a xs → Rps C F xs l → Rp C F (.ref a) (.tup l)
  | lst {a : Addr} {xs : List V} {l : List PV} : F a = some (.lst xs) → Rps C F xs l → Rp C F (.ref a) (.lst l)
  | scr {a : Addr} {xs : List V} {l : List PV} : SqL C.K F a xs → Rps C F xs l → Rp C F (.ref a) (.scr l)
  | ins {a : Addr} {c : Str} {dx : Addr} {fs : List (Str × V)} {l : List (Str × PV)} : F a = some (.ins (C.cl c) dx fs) → Rpf C F fs l → Rp C F (.ref a) (.ins c l)
  | fnp : Rp C F (.ref C.fa) .fnp
  | exi {a dx : Addr} {c : Str} {u : V} {p : PV} : F a = some (ExV (.ref (C.cl c)) dx a) → F dx = some (.xd [(("value" : Str), u)]) → Rp C F u p → Rp C F (.ref a) (.exi c p)
  | dcv {a : Addr} {o : Obj} {kv : List (Key × V)} {ks : List Key} {vs : List PV} : F a = some (.frz o (.dK kv)) → kv.map (·.1) = ks → Rps C F (kv.map (·.2)) vs → Rp C F (.ref a) (.dcv ks vs)
inductive Rps (C : Fx) (F : Hp) : List V → List PV → Prop
  | nil : Rps C F [] []
  | cons {v : V} {vs : List V} {p : PV} {ps : List PV} : Rp C F v p → Rps C F vs ps → Rps C F (v :: vs) (p :: ps)
inductive Rpf (C : Fx) (F : Hp) : List (Str × V) → List (Str × PV) → Prop
  | nil : Rpf C F [] []
  | cons {n : Str} {v : V} {vs : List (Str × V)} {p : PV} {ps : List (Str × PV)} : Rp C F v p → Rpf C F vs ps → Rpf C F ((n, v) :: vs) ((n, p) :: ps)
end
theorem sqT_mono {K : PySem.W.Frag} {H H' : Hp} {a : Addr} {xs : List V} (e : Same H H') (h : SqT K H a xs) : SqT K H' a xs := by
  rcases h with (h | ⟨o, h⟩) | h
  · exact .inl (.inl (e _ _ h))
  · exact .inl (.inr ⟨o, e _ _ h⟩)
  · exact .inr h
mutual
theorem Rp.mono {C : Fx} {F F' : Hp} (e : Same F F') : ∀ {v : V} {p : PV}, Rp C F v p → Rp C F' v p
  | _, _, .non => .non
  | _, _, .bl b => .bl b
  | _, _, .int i => .int i
  | _, _, .str x => .str x
  | _, _, .tup h r => .tup (sqT_mono e h) (Rps.mono e r)
  | _, _, .lst h r => .lst (e _ _ h) (Rps.mono e r)
  | _, _, .scr h r => .scr (e.seq h) (Rps.mono e r)
  | _, _, .ins h r => .ins (e _ _ h) (Rpf.mono e r)
  | _, _, .fnp => .fnp
  | _, _, .exi h k r => .exi (e _ _ h) (e _ _ k) (Rp.mono e r)
  | _, _, .dcv h k r => .dcv (e _ _ h) k (Rps.mono e r)
theorem Rps.mono {C : Fx} {F F' : Hp} (e : Same F F') : ∀ {v : List V} {p : List PV}, Rps C F v p → Rps C F' v p
  | _, _, .nil => .nil
  | _, _, .cons h r => .cons (Rp.mono e h) (Rps.mono e r)
theorem Rpf.mono {C : Fx} {F F' : Hp} (e : Same F F') : ∀ {v : List (Str × V)} {p : List (Str × PV)}, Rpf C F v p → Rpf C F' v p
  | _, _, .nil => .nil
  | _, _, .cons h r => .cons (Rp.mono e h) (Rpf.mono e r)
end
section
variable {C : Fx} {F : Hp}
theorem Rps.length : ∀ {vs : List V} {ps : List PV}, Rps C F vs ps → vs.length = ps.length
  | _, _, .nil => rfl
  | _, _, .cons _ r => by rw [List.length_cons, List.length_cons, Rps.length r]
theorem Rps.get : ∀ {vs : List V} {ps : List PV} {i : Nat} {p : PV}, Rps C F vs ps → ps[i]? = some p → ∃ v, vs[i]? = some v ∧ Rp C F v p
  | _, _, _, _, .nil, e => by simp at e
  | _, _, 0, _, .cons r _, e => by simp at e; subst e; exact ⟨_, rfl, r⟩
  | _, _, i + 1, _, .cons _ t, e => by
    obtain ⟨v, h1, h2⟩ := Rps.get (i := i) t (by simpa using e)
    exact ⟨v, by simpa using h1, h2⟩
theorem Rps.getV : ∀ {vs : List V} {ps : List PV} {i : Nat} {v : V}, Rps C F vs ps → vs[i]? = some v → ∃ p, ps[i]? = some p ∧ Rp C F v p
  | _, _, _, _, .nil, e => by simp at e
  | _, _, 0, _, .cons r _, e => by simp at e; subst e; exact ⟨_, rfl, r⟩
  | _, _, i + 1, _, .cons _ t, e => by
    obtain ⟨v, h1, h2⟩ := Rps.getV (i := i) t (by simpa using e)
    exact ⟨v, by simpa using h1, h2⟩
theorem Rps.append : ∀ {xs ys : List V} {ps qs : List PV}, Rps C F xs ps → Rps C F ys qs → Rps C F (xs ++ ys) (ps ++ qs)
  | _, _, _, _, .nil, s => s
  | _, _, _, _, .cons r t, s => .cons r (Rps.append t s)
theorem Rps.take : ∀ {xs : List V} {ps : List PV} (n : Nat), Rps C F xs ps → Rps C F (xs.take n) (ps.take n)
  | _, _, 0, _ => .nil
  | _, _, _ + 1, .nil => .nil
  | _, _, n + 1, .cons r t => .cons r (Rps.take n t)
theorem Rps.drop : ∀ {xs : List V} {ps : List PV} (n : Nat), Rps C F xs ps → Rps C F (xs.drop n) (ps.drop n)
  | _, _, 0, r => r
  | _, _, _ + 1, .nil => .nil
  | _, _, n + 1, .cons _ t => Rps.drop n t
theorem Rps.set {v : V} {p : PV} (r : Rp C F v p) : ∀ {xs : List V} {ps : List PV} (n : Nat), Rps C F xs ps → Rps C F (xs.set n v) (ps.set n p)
  | _, _, _, .nil => .nil
  | _, _, 0, .cons _ t => .cons r t
  | _, _, n + 1, .cons q t => .cons q (Rps.set r n t)
theorem Rps.ints : ∀ {vs : List V} {ns : List Int}, Rps C F vs (ns.map PV.int) → vs = ns.map V.int
  | [], [], _ => rfl
  | _ :: _, n :: ns, .cons (.int _) r => by rw [List.map_cons, Rps.ints (ns := ns) r]
theorem Rps.of_ints : ∀ (ns : List Int), Rps C F (ns.map V.int) (ns.map PV.int)
  | [] => .nil
  | n :: ns => .cons (.int n) (Rps.of_ints ns)
end
/-- lists that are changed, one behind the other -/
def Lls (C : Fx) (F H : Hp) : List Addr → List (List PV) → Prop
  | [], [] => True
  | a :: as, l :: ls => (∃ xs, H a = some (.lst xs) ∧ Rps C F xs l) ∧ Lls C F H as ls
  | _, _ => False
theorem Lls.keep {C : Fx} {F F' H H' : Hp} (e : Same F F') : ∀ {as : List Addr} {ls : List (List PV)}, Lls C F H as ls → (∀ b o, b ∈ as → H b = some o → H' b = some o) → Lls C F' H' as ls
  | [], [], _, _ => trivial
  | a :: as, l :: ls, ⟨⟨xs, h1, h2⟩, h⟩, k => ⟨⟨xs, k a _ List.mem_cons_self h1, h2.mono e⟩, Lls.keep e h fun b o hb => k b o (List.mem_cons_of_mem _ hb)⟩
  | [], _ :: _, h, _ => h.elim
  | _ :: _, [], h, _ => h.elim
theorem Lls.keepT {C : Fx} {F F' H H' : Hp} (e : Same F F') : ∀ {as : List Addr} {ls : List (List PV)}, Lls C F H as ls → (∀ b o, b ∈ as → ¬ Tbx o → H b = some o → H' b = some o) → Lls C F' H' as ls
  | [], [], _, _ => trivial
  | a :: as, l :: ls, ⟨⟨xs, h1, h2⟩, h⟩, k => ⟨⟨xs, k a _ List.mem_cons_self (fun z => z) h1, h2.mono e⟩, Lls.keepT e h fun b o hb => k b o (List.mem_cons_of_mem _ hb)⟩
  | [], _ :: _, h, _ => h.elim
  | _ :: _, [], h, _ => h.elim
theorem Lls.there {C : Fx} {F H : Hp} : ∀ {as : List Addr} {ls : List (List PV)}, Lls C F H as ls → ∀ b, b ∈ as → H b ≠ none
  | [], [], _, _, hb => by cases hb
  | a :: as, l :: ls, ⟨⟨xs, h1, h2⟩, h⟩, b, hb => by
    rcases List.mem_cons.mp hb with e | hb
    · subst e; rw [h1]; simp
    · exact Lls.there h b hb
  | [], _ :: _, h, _, _ => h.elim
  | _ :: _, [], h, _, _ => h.elim
/-- where a changeable object stands: p its address, fp all addresses that belong to it -/
def MAt (C : Fx) (F H : Hp) (p : Addr) (fp : List Addr) : MO → Prop
  | .lst l => fp = [p] ∧ ∃ xs, H p = some (.lst xs) ∧ Rps C F xs l
  | .ins c l => fp = [p] ∧ ∃ dx fs, H p = some (.ins (C.cl c) dx fs) ∧ Rpf C F fs l
  | .dct kvs => fp = [p] ∧ ∃ ks : List (Key × V), H p = some (.dK ks) ∧ ks.map (·.1) = kvs.map (·.1) ∧ Rps C F (ks.map (·.2)) (kvs.map (·.2))
  | .lls ls => ∃ as, fp = p :: as ∧ p ∉ as ∧ as.Nodup ∧ H p = some (.lst (as.map V.ref)) ∧ Lls C F H as ls
  | .bag g l t b => ∃ q, fp = [p, q] ∧ p ≠ q ∧ H p = some (.dK [(.inr "great", .ref q), (.inr "left", .int l), (.inr "turn", .int t), (.inr "blend", .int b)]) ∧ H q = some (.lst (g.map V.int))
/-- the plain part may grow, the object's own part must stay -/
theorem MAt.keep {C : Fx} {F F' H H' : Hp} {p : Addr} {fp : List Addr} {m : MO} (h : MAt C F H p fp m) (e : Same F F') (k : ∀ b o, b ∈ fp → H b = some o → H' b = some o) : MAt C F' H' p fp m := by
  cases m with
  | lst l =>
    obtain ⟨rfl, xs, h1, h2⟩ := h
    exact ⟨rfl, xs, k _ _ List.mem_cons_self h1, h2.mono e⟩
  | ins c l =>
    obtain ⟨rfl, dx, fs, h1, h2⟩ := h
    exact ⟨rfl, dx, fs, k _ _ List.mem_cons_self h1, h2.mono e⟩
  | dct l =>
    obtain ⟨rfl, ks, h1, h2, h3⟩ := h
    exact ⟨rfl, ks, k _ _ List.mem_cons_self h1, h2, h3.mono e⟩
  | lls l =>
    obtain ⟨as, rfl, n, nd, h1, h2⟩ := h
    exact ⟨as, rfl, n, nd, k _ _ List.mem_cons_self h1, h2.keep e fun b o hb => k b o (List.mem_cons_of_mem _ hb)⟩
  | bag g l t b =>
    obtain ⟨q, rfl, n, h1, h2⟩ := h
    exact ⟨q, rfl, n, k _ _ List.mem_cons_self h1, k _ _ (List.mem_cons_of_mem _ List.mem_cons_self) h2⟩
/-- the plain part may grow, the object's own part must stay -/
theorem MAt.keepT {C : Fx} {F F' H H' : Hp} {p : Addr} {fp : List Addr} {m : MO} (h : MAt C F H p fp m) (e : Same F F') (k : ∀ b o, b ∈ fp → ¬ Tbx o → H b = some o → H' b = some o) : MAt C F' H' p fp m := by
  cases m with
  | lst l =>
    obtain ⟨rfl, xs, h1, h2⟩ := h
    exact ⟨rfl, xs, k _ _ List.mem_cons_self (fun z => z) h1, h2.mono e⟩
  | ins c l =>
    obtain ⟨rfl, dx, fs, h1, h2⟩ := h
    exact ⟨rfl, dx, fs, k _ _ List.mem_cons_self (fun z => z) h1, h2.mono e⟩
  | dct l =>
    obtain ⟨rfl, ks, h1, h2, h3⟩ := h
    exact ⟨rfl, ks, k _ _ List.mem_cons_self (fun z => z) h1, h2, h3.mono e⟩
  | lls l =>
    obtain ⟨as, rfl, n, nd, h1, h2⟩ := h
    exact ⟨as, rfl, n, nd, k _ _ List.mem_cons_self (fun z => z) h1, h2.keepT e fun b o hb => k b o (List.mem_cons_of_mem _ hb)⟩
  | bag g l t b =>
    obtain ⟨q, rfl, n, h1, h2⟩ := h
    exact ⟨q, rfl, n, k _ _ List.mem_cons_self (fun z => z) h1, k _ _ (List.mem_cons_of_mem _ List.mem_cons_self) (fun z => z) h2⟩
/-- none of its objects is a table or code -/
theorem MAt.nte {C : Fx} {F H : Hp} {p : Addr} {fp : List Addr} {m : MO} (h : MAt C F H p fp m) : ∀ b o, b ∈ fp → H b = some o → ¬ Tbx o := by
  have lls : ∀ {as : List Addr} {ls : List (List PV)}, Lls C F H as ls → ∀ b o, b ∈ as → H b = some o → ¬ Tbx o := by
    intro as
    induction as with
    | nil => intro ls _ b o hb; cases hb
    | cons a as ih =>
      intro ls hl b o hb e
      cases ls with
      | nil => exact hl.elim
      | cons l ls =>
        obtain ⟨⟨xs, h1, _⟩, h2⟩ := hl
        rcases List.mem_cons.mp hb with z | hb
        · rw [z, h1] at e; cases e; exact fun z => z
        · exact ih h2 b o hb e
  intro b o hb e
  cases m with
  | lst l =>
    obtain ⟨rfl, xs, h1, h2⟩ := h
    rw [List.mem_singleton] at hb
    rw [hb, h1] at e; cases e; exact fun z => z
  | ins c l =>
    obtain ⟨rfl, dx, fs, h1, h2⟩ := h
    rw [List.mem_singleton] at hb
    rw [hb, h1] at e; cases e; exact fun z => z
  | dct l =>
    obtain ⟨rfl, ks, h1, h2, h3⟩ := h
    rw [List.mem_singleton] at hb
    rw [hb, h1] at e; cases e; exact fun z => z
  | lls l =>
    obtain ⟨as, rfl, n, nd, h1, h2⟩ := h
    rcases List.mem_cons.mp hb with z | hb
    · rw [z, h1] at e; cases e; exact fun z => z
    · exact lls h2 b o hb e
  | bag g l t bb =>
    obtain ⟨q, rfl, n, h1, h2⟩ := h
    rcases List.mem_cons.mp hb with z | hb
    · rw [z, h1] at e; cases e; exact fun z => z
    · rw [List.mem_singleton] at hb
      rw [hb, h2] at e; cases e; exact fun z => z
theorem MAt.there {C : Fx} {F H : Hp} {p : Addr} {fp : List Addr} {m : MO} (h : MAt C F H p fp m) : ∀ b, b ∈ fp → H b ≠ none := by
  intro b hb
  cases m with
  | lst l =>
    obtain ⟨rfl, xs, h1, h2⟩ := h
    rw [List.mem_singleton] at hb
    subst hb; rw [h1]; simp
  | ins c l =>
    obtain ⟨rfl, dx, fs, h1, h2⟩ := h
    rw [List.mem_singleton] at hb
    subst hb; rw [h1]; simp
  | dct l =>
    obtain ⟨rfl, ks, h1, h2, h3⟩ := h
    rw [List.mem_singleton] at hb
    subst hb; rw [h1]; simp
  | lls l =>
    obtain ⟨as, rfl, n, nd, h1, h2⟩ := h
    rcases List.mem_cons.mp hb with e | hb
    · subst e; rw [h1]; simp
    · exact h2.there b hb
  | bag g l t bb =>
    obtain ⟨q, rfl, n, h1, h2⟩ := h
    rcases List.mem_cons.mp hb with e | hb
    · subst e; rw [h1]; simp
    · rw [List.mem_singleton] at hb
      subst hb; rw [h2]; simp
/-- the state is held: F the plain part of the heap, A what the slots own -/
structure OkF (C : Fx) (F : Hp) (A : Nat → List Addr) (H : Hp) (σ : L2.St) (s : Stt) : Prop where
  len : σ.length = s.ro.length
  sub : Same F H
  val : ∀ (i : Nat) (v : PV), s.ro[i]? = some (some (SV.val v)) → ∃ u, σ[i]? = some (some u) ∧ Rp C F u v
  own : ∀ (i : Nat) (m : MO), s.ro[i]? = some (some (SV.own m)) → ∃ p, σ[i]? = some (some (.ref p)) ∧ MAt C F H p (A i) m
  nb : s.mu.length = C.nb
  lent : ∀ (i k : Nat), s.ro[i]? = some (some (SV.bor k)) → σ[i]? = some (some (V.ref (C.be k))) ∧ k < C.nb
  bor : ∀ (k : Nat) (m : MO), s.mu[k]? = some m → MAt C F H (C.be k) (C.Bf k) m
  free : ∀ i b, b ∈ A i → F b = none ∧ H b ≠ none
  dis : ∀ i j b, b ∈ A i → b ∈ A j → i = j
  freeB : ∀ k b, k < C.nb → b ∈ C.Bf k → F b = none ∧ ∀ i, b ∉ A i
  disB : ∀ k j b, k < C.nb → j < C.nb → b ∈ C.Bf k → b ∈ C.Bf j → k = j
  ext : Same C.F0 F ∧ TabOk C.cl F H
def OwnA (A : Nat → List Addr) (b : Addr) : Prop := ∃ i, b ∈ A i
def Bor (C : Fx) (b : Addr) : Prop := ∃ k, k < C.nb ∧ b ∈ C.Bf k
/-- what a piece of code may have done -/
structure Step (C : Fx) (F : Hp) (A : Nat → List Addr) (H F' : Hp) (A' : Nat → List Addr) (H' : Hp) : Prop where
  s1 : Same F F'
  s2 : ∀ b, F' b ≠ none → F b ≠ none ∨ H b = none ∨ OwnA A b
  s3 : ∀ b, OwnA A' b → OwnA A b ∨ H b = none
  s4 : ∀ b o, H b = some o → (∀ ps, o ≠ .tbl ps) → ¬ OwnA A b → ¬ Bor C b → H' b = some o
  s5 : ∀ b, H b ≠ none → H' b ≠ none
theorem Step.refl {C : Fx} {F H : Hp} {A : Nat → List Addr} : Step C F A H F A H :=
  ⟨fun _ _ h => h, fun _ h => .inl h, fun _ h => .inl h, fun _ _ h _ _ _ => h, fun _ h => h⟩
theorem Step.trans {C : Fx} {F F1 F2 H H1 H2 : Hp} {A A1 A2 : Nat → List Addr} (a : Step C F A H F1 A1 H1) (b : Step C F1 A1 H1 F2 A2 H2) : Step C F A H F2 A2 H2 where
  s1 := a.s1.trans b.s1
  s2 := fun c h => by
    rcases b.s2 c h with q | q | q
    · exact a.s2 c q
    · refine .inr (.inl ?_)
      cases e : H c with
      | none => rfl
      | some o => exact absurd q (a.s5 c (by rw [e]; simp))
    · exact .inr ((a.s3 c q).symm)
  s3 := fun c h => by
    rcases b.s3 c h with q | q
    · exact a.s3 c q
    · refine .inr ?_
      cases e : H c with
      | none => rfl
      | some o => exact absurd q (a.s5 c (by rw [e]; simp))
  s4 := fun c o h nt n m => by
    refine b.s4 c o (a.s4 c o h nt n m) nt (fun q => ?_) m
    rcases a.s3 c q with z | z
    · exact n z
    · rw [h] at z; cases z
  s5 := fun c h => b.s5 c (a.s5 c h)
/-- what an expression comes to -/
inductive Res (α : Type) where
  | ok (a : α) (s : Stt) | ex (c : Str) (v : PV) (s : Stt) | stuck
def Res.bind {α β : Type} : Res α → (α → Stt → Res β) → Res β
  | .ok a s, f => f a s
  | .ex c v s, _ => .ex c v s
  | .stuck, _ => .stuck
@[simp] theorem Res.bind_ok {α β : Type} (a : α) (s : Stt) (f : α → Stt → Res β) : (Res.ok a s).bind f = f a s := rfl
@[simp] theorem Res.bind_ex {α β : Type} (c : Str) (v : PV) (s : Stt) (f : α → Stt → Res β) : (Res.ex c v s : Res α).bind f = .ex c v s := rfl
@[simp] theorem Res.bind_stuck {α β : Type} (f : α → Stt → Res β) : (Res.stuck : Res α).bind f = .stuck := rfl
def Res.opt {α : Type} (s : Stt) : Option α → Res α
  | some a => .ok a s
  | none => .stuck
@[simp] theorem Res.opt_some {α : Type} (a : α) (s : Stt) : Res.opt s (some a) = .ok a s := rfl
@[simp] theorem Res.opt_none {α : Type} (s : Stt) : Res.opt s (none : Option α) = .stuck := rfl
/-- an exception of a class of the program: its dict holds the value -/
def XAt (C : Fx) (F H : Hp) (d : Addr) (v : PV) : Prop := ∃ u, F d = some (.xd [(("value" : Str), u)]) ∧ Rp C F u v
def Post {α β : Type} (C : Fx) (W : WX) (R : Hp → Hp → β → α → Prop) (F : Hp) (A : Nat → List Addr) (H : Hp) (σ : L2.St) (r : Res α) (Q : β → Hp → Prop) : Prop :=
  match r with
  | .ok a s => ∀ v F' A' H', OkF C F' A' H' σ s → Step C F A H F' A' H' → R F' H' v a → Q v H'
  | .ex c p s => ∀ d F' A' H', OkF C F' A' H' σ s → Step C F A H F' A' H' → XAt C F' H' d p → W (.ref (C.cl c)) (some d) σ H'
  | .stuck => False
theorem Post.after {α β : Type} {C : Fx} {W : WX} {R : Hp → Hp → β → α → Prop} {F F1 H H1 : Hp} {A A1 : Nat → List Addr} {σ : L2.St} {r : Res α} {Q : β → Hp → Prop} (st : Step C F A H F1 A1 H1) (p : Post C W R F A H σ r Q) : Post C W R F1 A1 H1 σ r Q := by
  cases r with
  | ok a s => exact fun v F' A' H' o t q => p v F' A' H' o (st.trans t) q
  | ex c v s => exact fun d F' A' H' o t q => p d F' A' H' o (st.trans t) q
  | stuck => exact p
/-- the first part, then the rest -/
theorem Post.seq {α β γ δ : Type} {C : Fx} {W : WX} {R : Hp → Hp → β → α → Prop} {R2 : Hp → Hp → δ → γ → Prop} {F H : Hp} {A : Nat → List Addr} {σ : L2.St} {r : Res α} {f : α → Stt → Res γ} {Q : δ → Hp → Prop} {Q1 : β → Hp → Prop}
    (p : Post C W R2 F A H σ (r.bind f) Q)
    (k : ∀ a s v F' A' H', r = .ok a s → OkF C F' A' H' σ s → Step C F A H F' A' H' → R F' H' v a → Post C W R2 F' A' H' σ (f a s) Q → Q1 v H') : Post C W R F A H σ r Q1 := by
  cases r with
  | ok a s => exact fun v F' A' H' o t q => k a s v F' A' H' rfl o t q (p.after t)
  | ex c v s => exact p
  | stuck => exact p
abbrev RV (C : Fx) : Hp → Hp → V → PV → Prop := fun F _ v p => Rp C F v p
abbrev RVs (C : Fx) : Hp → Hp → List V → List PV → Prop := fun F _ v p => Rps C F v p
abbrev RB : Hp → Hp → Bool → Bool → Prop := fun _ _ b c => b = c
/-- e has the plain value f, and does to the state what f does -/
structure DV (X : Cx) (C : Fx) (W : WX) (e : Expr) (f : Stt → Res PV) : Prop where
  pr : ∃ te, PE X e te ∧ ∀ F A H σ s Q, OkF C F A H σ s → Post C W (RV C) F A H σ (f s) Q → te σ H Q
structure DA (X : Cx) (C : Fx) (W : WX) (es : List Expr) (f : Stt → Res (List PV)) : Prop where
  pr : ∃ te, PA X es te ∧ ∀ F A H σ s Q, OkF C F A H σ s → Post C W (RVs C) F A H σ (f s) Q → te σ H Q
structure DT (X : Cx) (C : Fx) (W : WX) (e : Expr) (f : Stt → Res Bool) : Prop where
  pr : ∃ te, PT X e te ∧ ∀ F A H σ s Q, OkF C F A H σ s → Post C W RB F A H σ (f s) Q → te σ H Q
/-- nothing was changed -/
theorem Post.now {α β : Type} {C : Fx} {W : WX} {R : Hp → Hp → β → α → Prop} {F H : Hp} {A : Nat → List Addr} {σ : L2.St} {s : Stt} {a : α} {v : β} {Q : β → Hp → Prop} (o : OkF C F A H σ s) (p : Post C W R F A H σ (.ok a s) Q) (r : R F H v a) : Q v H :=
  p v F A H o .refl r
/-- a new plain object -/
theorem OkF.alloc {C : Fx} {F H : Hp} {A : Nat → List Addr} {σ : L2.St} {s : Stt} {p : Addr} {o : HO} (k : OkF C F A H σ s) (hp : H p = none) : OkF C (upd F p o) A (upd H p o) σ s ∧ Step C F A H (upd F p o) A (upd H p o) := by
  have hF : F p = none := k.sub.free hp
  have sF : Same F (upd F p o) := fun b u e => by rw [upd_ne (ne_of_none e hF)]; exact e
  have sH : Same H (upd H p o) := fun b u e => by rw [upd_ne (ne_of_none e hp)]; exact e
  have nA : ∀ i, p ∉ A i := fun i z => (k.free i p z).2 hp
  have nB : ∀ q, q < C.nb → p ∉ C.Bf q := fun q hq z => by
    have hm : q < s.mu.length := by rw [k.nb]; exact hq
    exact (k.bor q s.mu[q] (List.getElem?_eq_getElem hm)).there p z hp
  refine ⟨⟨k.len, fun b u e => ?_, fun i v e => ?_, fun i m e => ?_, k.nb, k.lent, fun q m e => ?_, fun i b hb => ?_, k.dis, fun q b hq hb => ?_, k.disB, ⟨k.ext.1.trans sF, k.ext.2.off sF (fun b ps e h => by rw [upd_ne (ne_of_none e hp)]; exact h) fun b o _ => sH b o⟩⟩, ⟨sF, fun b hb => ?_, fun b hb => .inl hb, fun b u e _ _ _ => sH b u e, fun b hb => ?_⟩⟩
  · by_cases hb : b = p
    · subst hb; rw [upd_same] at e ⊢; exact e
    · rw [upd_ne hb] at e ⊢; exact k.sub b u e
  · obtain ⟨u, h1, h2⟩ := k.val i v e
    exact ⟨u, h1, h2.mono sF⟩
  · obtain ⟨u, h1, h2⟩ := k.own i m e
    exact ⟨u, h1, h2.keep sF fun b o _ => sH b o⟩
  · exact (k.bor q m e).keep sF fun b o _ => sH b o
  · obtain ⟨h1, h2⟩ := k.free i b hb
    have hne : b ≠ p := fun z => nA i (z ▸ hb)
    exact ⟨by rw [upd_ne hne]; exact h1, by rw [upd_ne hne]; exact h2⟩
  · obtain ⟨h1, h2⟩ := k.freeB q b hq hb
    have hne : b ≠ p := fun z => nB q hq (z ▸ hb)
    exact ⟨by rw [upd_ne hne]; exact h1, h2⟩
  · by_cases hbp : b = p
    · subst hbp; exact .inr (.inl hp)
    · rw [upd_ne hbp] at hb; exact .inl hb
  · by_cases hbp : b = p
    · subst hbp; rw [upd_same]; simp
    · rw [upd_ne hbp]; exact hb
/-- an operator by plain values -/
def OpD (C : Fx) (r : R2) (op : PV → PV → Option PV) : Prop :=
  ∀ F A H σ s x y p q z (Q : VK), OkF C F A H σ s → Rp C F x p → Rp C F y q → op p q = some z →
    (∀ v F' A' H', OkF C F' A' H' σ s → Step C F A H F' A' H' → Rp C F' v z → Q v H') → r x y H Q
def UnD (C : Fx) (r : V → Hp → VK → Prop) (op : PV → Option PV) : Prop :=
  ∀ F A H σ s x p z (Q : VK), OkF C F A H σ s → Rp C F x p → op p = some z →
    (∀ v F' A' H', OkF C F' A' H' σ s → Step C F A H F' A' H' → Rp C F' v z → Q v H') → r x H Q
def CallD (C : Fx) (r : List V → Hp → VK → Prop) (op : List PV → Option PV) : Prop :=
  ∀ F A H σ s x p z (Q : VK), OkF C F A H σ s → Rps C F x p → op p = some z →
    (∀ v F' A' H', OkF C F' A' H' σ s → Step C F A H F' A' H' → Rp C F' v z → Q v H') → r x H Q
theorem Post.opt {α β : Type} {C : Fx} {W : WX} {R : Hp → Hp → β → α → Prop} {F H : Hp} {A : Nat → List Addr} {σ : L2.St} {s : Stt} {a : Option α} {Q : β → Hp → Prop} (p : Post C W R F A H σ (Res.opt s a) Q) :
    ∃ z, a = some z ∧ ∀ v F' A' H', OkF C F' A' H' σ s → Step C F A H F' A' H' → R F' H' v z → Q v H' := by
  cases a with
  | none => exact False.elim p
  | some z => exact ⟨z, rfl, p⟩
def eBin (op : PV → PV → Option PV) (fa fb : Stt → Res PV) : Stt → Res PV := fun s => (fa s).bind fun p s1 => (fb s1).bind fun q s2 => Res.opt s2 (op p q)
def eUn (op : PV → Option PV) (fa : Stt → Res PV) : Stt → Res PV := fun s => (fa s).bind fun p s1 => Res.opt s1 (op p)
def eC (p : PV) : Stt → Res PV := fun s => .ok p s
def aNil : Stt → Res (List PV) := fun s => .ok [] s
def aCons (fa : Stt → Res PV) (fb : Stt → Res (List PV)) : Stt → Res (List PV) := fun s => (fa s).bind fun p s1 => (fb s1).bind fun q s2 => .ok (p :: q) s2
def eCallB (op : List PV → Option PV) (fa : Stt → Res (List PV)) : Stt → Res PV := fun s => (fa s).bind fun p s1 => Res.opt s1 (op p)
def eVar (i : Nat) : Stt → Res PV := fun s => match s.ro[i]? with
  | some (some (.val v)) => .ok v s
  | _ => .stuck
section
variable {X : Cx} {C : Fx} {W : WX} {a b : Expr} {pos : Pos} {fa fb : Stt → Res PV}
theorem opPost {r : R2} {op : PV → PV → Option PV} {ta tb : TE} (h : OpD C r op)
    (ha : ∀ F A H σ s Q, OkF C F A H σ s → Post C W (RV C) F A H σ (fa s) Q → ta σ H Q) (hb : ∀ F A H σ s Q, OkF C F A H σ s → Post C W (RV C) F A H σ (fb s) Q → tb σ H Q) :
    ∀ F A H σ s Q, OkF C F A H σ s → Post C W (RV C) F A H σ (eBin op fa fb s) Q → tOp r ta tb σ H Q := by
  intro F A H σ s Q o p
  refine ha F A H σ s _ o (p.seq fun q1 s1 v1 F1 A1 H1 _ o1 st1 r1 p1 => ?_)
  refine hb F1 A1 H1 σ s1 _ o1 (p1.seq fun q2 s2 v2 F2 A2 H2 _ o2 st2 r2 p2 => ?_)
  obtain ⟨z, e, k⟩ := Post.opt p2
  exact h F2 A2 H2 σ s2 v1 v2 q1 q2 z Q o2 (r1.mono st2.s1) r2 e k
theorem dv_op {op : Operator} {r : R2} {f : PV → PV → Option PV} (ho : OpR X (binaryOp op) r) (h : OpD C r f) (ha : DV X C W a fa) (hb : DV X C W b fb) : DV X C W (.BinOp a op b pos) (eBin f fa fb) := by
  obtain ⟨ta, pa, qa⟩ := ha.pr
  obtain ⟨tb, pb, qb⟩ := hb.pr
  exact ⟨_, pe_op ho pa pb, opPost h qa qb⟩
theorem dv_cmp {op : CmpOp} {r : R2} {f : PV → PV → Option PV} (ho : OpR X (compareOp op) r) (h : OpD C r f) (ha : DV X C W a fa) (hb : DV X C W b fb) (hm : behindInMarks op b = false) : DV X C W (.Compare a [op] [b] pos) (eBin f fa fb) := by
  obtain ⟨ta, pa, qa⟩ := ha.pr
  obtain ⟨tb, pb, qb⟩ := hb.pr
  exact ⟨_, pe_cmpR ho pa pb hm, opPost h qa qb⟩
theorem dv_un {op : UnaryOp} {r : V → Hp → VK → Prop} {f : PV → Option PV} (ho : UnR X (unaryOp op) r) (h : UnD C r f) (ha : DV X C W a fa) : DV X C W (.UnaryOp op a pos) (eUn f fa) := by
  obtain ⟨ta, pa, qa⟩ := ha.pr
  refine ⟨_, pe_un ho pa, fun F A H σ s Q o p => ?_⟩
  refine qa F A H σ s _ o (p.seq fun q1 s1 v1 F1 A1 H1 _ o1 st1 r1 p1 => ?_)
  obtain ⟨z, e, k⟩ := Post.opt p1
  exact h F1 A1 H1 σ s1 v1 q1 z Q o1 r1 e k
theorem dv_const {e : Expr} {v : V} {p : PV} (h : PE X e (tC v)) (hr : ∀ F, Rp C F v p) : DV X C W e (eC p) :=
  ⟨_, h, fun F A H σ s Q o q => Post.now o q (hr F)⟩
theorem dv_int {i : Int} {j} : DV X C W (.Constant (.int i) j pos) (eC (.int i)) := dv_const pe_int fun _ => .int i
theorem dv_bl {b : Bool} {j} : DV X C W (.Constant (.bool b) j pos) (eC (.bl b)) := dv_const pe_bl fun _ => .bl b
theorem dv_str {x : Str} {j} : DV X C W (.Constant (.str x) j pos) (eC (.str x)) := dv_const pe_str fun _ => .str x
theorem dv_var (i : Nat) {x : Str} (hN : X.N[i]? = some x := by rfl) (hv : Vis X.env.scope x := by first | exact Or.inl rfl | exact Or.inr (Or.inl rfl) | exact Or.inr (Or.inr rfl)) (hd : (x == ("__debug__" : Str)) = false := by decide)
    (hcd : (x == ("__classdict__" : Str)) = false := by decide) : DV X C W (.Name x pos) (eVar i) := by
  refine ⟨_, pe_var hN hv hd hcd, fun F A H σ s Q o p => ?_⟩
  unfold eVar at p
  cases e : s.ro[i]? with
  | none => rw [e] at p; exact False.elim p
  | some z =>
    cases z with
    | none => rw [e] at p; exact False.elim p
    | some w =>
      cases w with
      | own m => rw [e] at p; exact False.elim p
      | bor m => rw [e] at p; exact False.elim p
      | val v =>
        rw [e] at p
        obtain ⟨u, h1, h2⟩ := o.val i v e
        exact ⟨u, h1, Post.now o p h2⟩
theorem da_nil : DA X C W [] aNil := ⟨_, pa_nil, fun F A H σ s Q o p => Post.now o p .nil⟩
theorem da_cons {es : List Expr} {fs : Stt → Res (List PV)} (ha : DV X C W a fa) (hs : DA X C W es fs) (he : starEach (a :: es) X.env = (false, eval a X.env) :: starEach es X.env := by rfl) : DA X C W (a :: es) (aCons fa fs) := by
  obtain ⟨ta, pa, qa⟩ := ha.pr
  obtain ⟨tb, pb, qb⟩ := hs.pr
  refine ⟨_, pa_cons pa pb he, fun F A H σ s Q o p => ?_⟩
  refine qa F A H σ s _ o (p.seq fun q1 s1 v1 F1 A1 H1 _ o1 st1 r1 p1 => ?_)
  refine qb F1 A1 H1 σ s1 _ o1 (p1.seq fun q2 s2 v2 F2 A2 H2 _ o2 st2 r2 p2 => ?_)
  exact Post.now o2 p2 (.cons (r1.mono st2.s1) r2)
theorem dv_callB {x : Str} {p : Pos} {es : List Expr} {id : String} {fs : Stt → Res (List PV)} {r : List V → Hp → VK → Prop} {f : List PV → Option PV} (hc : CallR X (.builtin id) r) (h : CallD C r f) (hg : Gl X x) (hm : X.mg x = none) (hv : bootBuiltins x = some (.builtin id)) (ha : DA X C W (a :: es) fs)
    (hn : x ≠ "__name__" := by decide) (hdb : (x == ("__debug__" : Str)) = false := by decide) (he : starEach (a :: es) X.env = (false, eval a X.env) :: starEach es X.env := by rfl) (hpl : (backTo pos (starEach es X.env)).any (·.1) = false := by rfl) :
    DV X C W (.Call (.Name x p) (a :: es) [] pos) (eCallB f fs) := by
  obtain ⟨ta, pa, qa⟩ := ha.pr
  refine ⟨_, pe_callB hc hg hm hv pa hn hdb he hpl, fun F A H σ s Q o p => ?_⟩
  refine qa F A H σ s _ o (p.seq fun q1 s1 v1 F1 A1 H1 _ o1 st1 r1 p1 => ?_)
  obtain ⟨z, e, k⟩ := Post.opt p1
  exact h F1 A1 H1 σ s1 v1 q1 z Q o1 r1 e k
end
end PL
/-! PL2: statements, targets, loops, a def's promise, its call. -/
namespace PL
open PySem PySem.Spec PyProof.Rows L2
/-- how a statement ends -/
inductive Fl where
  | nx (s : Stt) | rt (v : PV) (s : Stt) | rto (m : MO) (s : Stt) | bk (s : Stt) | ct (s : Stt) | ex (c : Str) (v : PV) (s : Stt) | stuck
/-- a fresh object that nobody else knows, at p -/
def Fresh (C : Fx) (F : Hp) (A : Nat → List Addr) (H F' : Hp) (A' : Nat → List Addr) (H' : Hp) (p : Addr) (m : MO) : Prop :=
  ∃ fp, MAt C F' H' p fp m ∧ ∀ b, b ∈ fp → F' b = none ∧ ¬ OwnA A' b ∧ ¬ Bor C b ∧ (H b = none ∨ OwnA A b)
def PostS (C : Fx) (W : WX) (F : Hp) (A : Nat → List Addr) (H : Hp) (D : Ends) : Fl → Prop
  | .nx s => ∀ σ F' A' H', OkF C F' A' H' σ s → Step C F A H F' A' H' → D.nx σ H'
  | .bk s => ∀ σ F' A' H', OkF C F' A' H' σ s → Step C F A H F' A' H' → D.bk σ H'
  | .ct s => ∀ σ F' A' H', OkF C F' A' H' σ s → Step C F A H F' A' H' → D.ct σ H'
  | .rt v s => ∀ u σ F' A' H', OkF C F' A' H' σ s → Step C F A H F' A' H' → Rp C F' u v → D.rt u H'
  | .rto m s => ∀ p σ F' A' H', OkF C F' A' H' σ s → Step C F A H F' A' H' → Fresh C F A H F' A' H' p m → D.rt (.ref p) H'
  | .ex c v s => ∀ d σ F' A' H', OkF C F' A' H' σ s → Step C F A H F' A' H' → XAt C F' H' d v → W (.ref (C.cl c)) (some d) σ H'
  | .stuck => False
theorem Fresh.after {C : Fx} {F F1 F' H H1 H' : Hp} {A A1 A' : Nat → List Addr} {p : Addr} {m : MO} (st : Step C F A H F1 A1 H1) (f : Fresh C F1 A1 H1 F' A' H' p m) : Fresh C F A H F' A' H' p m := by
  obtain ⟨fp, h, k⟩ := f
  refine ⟨fp, h, fun b hb => ?_⟩
  obtain ⟨k1, k2, k3, k4⟩ := k b hb
  refine ⟨k1, k2, k3, ?_⟩
  rcases k4 with q | q
  · left
    cases e : H b with
    | none => rfl
    | some o => exact absurd q (st.s5 b (by rw [e]; simp))
  · exact (st.s3 b q).symm
theorem PostS.after {C : Fx} {W : WX} {F F1 H H1 : Hp} {A A1 : Nat → List Addr} {D : Ends} {r : Fl} (st : Step C F A H F1 A1 H1) (p : PostS C W F A H D r) : PostS C W F1 A1 H1 D r := by
  cases r with
  | nx s => exact fun σ F' A' H' o t => p σ F' A' H' o (st.trans t)
  | bk s => exact fun σ F' A' H' o t => p σ F' A' H' o (st.trans t)
  | ct s => exact fun σ F' A' H' o t => p σ F' A' H' o (st.trans t)
  | rt v s => exact fun u σ F' A' H' o t q => p u σ F' A' H' o (st.trans t) q
  | rto m s => exact fun u σ F' A' H' o t q => p u σ F' A' H' o (st.trans t) (q.after st)
  | ex c v s => exact fun d σ F' A' H' o t q => p d σ F' A' H' o (st.trans t) q
  | stuck => exact p
/-- other ends -/
theorem PostS.mono {C : Fx} {W : WX} {F H : Hp} {A : Nat → List Addr} {D D' : Ends} {r : Fl} (hn : ∀ s, r = .nx s → PostS C W F A H D (.nx s) → PostS C W F A H D' (.nx s)) (hb : ∀ s, r = .bk s → PostS C W F A H D (.bk s) → PostS C W F A H D' (.bk s)) (hc : ∀ s, r = .ct s → PostS C W F A H D (.ct s) → PostS C W F A H D' (.ct s))
    (hr : D'.rt = D.rt) (p : PostS C W F A H D r) : PostS C W F A H D' r := by
  cases r with
  | nx s => exact hn s rfl p
  | bk s => exact hb s rfl p
  | ct s => exact hc s rfl p
  | rt v s => intro u σ F' A' H' o t q; rw [hr]; exact p u σ F' A' H' o t q
  | rto m s => intro u σ F' A' H' o t q; rw [hr]; exact p u σ F' A' H' o t q
  | ex c v s => exact p
  | stuck => exact p
structure DS (X : Cx) (C : Fx) (W : WX) (st : Stmt) (g : Stt → Fl) : Prop where
  pr : ∃ ts, PS X st ts ∧ ∀ F A H σ s D, OkF C F A H σ s → PostS C W F A H D (g s) → ts D σ H
structure DSs (X : Cx) (C : Fx) (W : WX) (st : List Stmt) (g : Stt → Fl) : Prop where
  pr : ∃ ts, PSs X st ts ∧ ∀ F A H σ s D, OkF C F A H σ s → PostS C W F A H D (g s) → ts D σ H
/-- slots that vs does not tell are as they were -/
def SameOut (vs : Nat → Bool) (σ σ' : L2.St) : Prop := σ'.length = σ.length ∧ ∀ i, vs i = false → σ'[i]? = σ[i]?
theorem SameOut.refl (vs : Nat → Bool) (σ : L2.St) : SameOut vs σ σ := ⟨rfl, fun _ _ => rfl⟩
theorem SameOut.trans {vs : Nat → Bool} {σ σ1 σ2 : L2.St} (a : SameOut vs σ σ1) (b : SameOut vs σ1 σ2) : SameOut vs σ σ2 := ⟨b.1.trans a.1, fun i h => (b.2 i h).trans (a.2 i h)⟩
abbrev anyV : Nat → Bool := fun _ => true
/-- a target: what the store makes of the state -/
structure DG (X : Cx) (C : Fx) (vs : Nat → Bool) (tg : Expr) (a : PV → Stt → Option Stt) : Prop where
  pr : ∃ t, PG X tg t ∧ ∀ F A H σ s x p s' Q, OkF C F A H σ s → Rp C F x p → a p s = some s' → (∀ σ' F' A' H', OkF C F' A' H' σ' s' → Step C F A H F' A' H' → SameOut vs σ σ' → Q σ' H') → t x σ H Q
structure DGs (X : Cx) (C : Fx) (vs : Nat → Bool) (tg : List Expr) (a : List PV → Stt → Option Stt) : Prop where
  pr : ∃ t, PGs X tg t ∧ ∀ F A H σ s x p s' Q, OkF C F A H σ s → Rps C F x p → a p s = some s' → (∀ σ' F' A' H', OkF C F' A' H' σ' s' → Step C F A H F' A' H' → SameOut vs σ σ' → Q σ' H') → t x σ H Q
def setV (i : Nat) (p : PV) (s : Stt) : Stt := ⟨s.ro.set i (some (.val p)), s.mu⟩
def setO (i : Nat) (m : MO) (s : Stt) : Stt := ⟨s.ro.set i (some (.own m)), s.mu⟩
def dropA (A : Nat → List Addr) (i : Nat) : Nat → List Addr := fun j => if j = i then [] else A j
def putA (A : Nat → List Addr) (i : Nat) (fp : List Addr) : Nat → List Addr := fun j => if j = i then fp else A j
section
variable {C : Fx} {F H : Hp} {A : Nat → List Addr} {σ : L2.St} {s : Stt}
theorem OkF.setV {i : Nat} {u : V} {p : PV} (o : OkF C F A H σ s) (r : Rp C F u p) : OkF C F (dropA A i) H (σ.set i (some u)) (setV i p s) ∧ Step C F A H F (dropA A i) H := by
  have sub : ∀ j b, b ∈ dropA A i j → b ∈ A j := fun j b hb => by
    unfold dropA at hb
    split at hb
    · cases hb
    · exact hb
  refine ⟨⟨by simp [PL.setV, o.len], o.sub, fun j v e => ?_, fun j m e => ?_, o.nb, fun j k e => ?_, o.bor, fun j b hb => o.free j b (sub j b hb), fun j l b hj hl => o.dis j l b (sub _ _ hj) (sub _ _ hl), fun k b hk hb => ?_, o.disB, o.ext⟩, ⟨fun _ _ h => h, fun _ h => .inl h, fun b hb => ?_, fun _ _ h _ _ _ => h, fun _ h => h⟩⟩
  · unfold PL.setV at e
    by_cases hj : i = j
    · subst hj
      have hl : i < s.ro.length := by
        cases z : (s.ro.set i (some (SV.val p)))[i]? with
        | none => simp only [z] at e; cases e
        | some _ => have := (List.getElem?_eq_some_iff.mp z).1; rwa [List.length_set] at this
      simp only [List.getElem?_set_self hl] at e
      cases e
      exact ⟨u, List.getElem?_set_self (by rw [o.len]; exact hl), r⟩
    · simp only [List.getElem?_set_ne hj] at e ⊢
      exact o.val j v e
  · unfold PL.setV at e
    by_cases hj : i = j
    · subst hj
      have hl : i < s.ro.length := by
        cases z : (s.ro.set i (some (SV.val p)))[i]? with
        | none => simp only [z] at e; cases e
        | some _ => have := (List.getElem?_eq_some_iff.mp z).1; rwa [List.length_set] at this
      simp only [List.getElem?_set_self hl] at e
      cases e
    · simp only [List.getElem?_set_ne hj] at e ⊢
      unfold dropA
      rw [if_neg (Ne.symm hj)]
      exact o.own j m e
  · unfold PL.setV at e
    by_cases hj : i = j
    · subst hj
      have hl : i < s.ro.length := by
        cases z : (s.ro.set i (some (SV.val p)))[i]? with
        | none => simp only [z] at e; cases e
        | some _ => have := (List.getElem?_eq_some_iff.mp z).1; rwa [List.length_set] at this
      simp only [List.getElem?_set_self hl] at e
      cases e
    · simp only [List.getElem?_set_ne hj] at e ⊢
      exact o.lent j k e
  · exact ⟨(o.freeB k b hk hb).1, fun j z => (o.freeB k b hk hb).2 j (sub _ _ z)⟩
  · obtain ⟨j, hj⟩ := hb
    exact .inl ⟨j, sub _ _ hj⟩
/-- a fresh object goes to a slot -/
theorem OkF.setO {F0 H0 : Hp} {A0 : Nat → List Addr} {i : Nat} {p : Addr} {m : MO} (o : OkF C F A H σ s) (st : Step C F0 A0 H0 F A H) (f : Fresh C F0 A0 H0 F A H p m) (hi : i < s.ro.length) : ∃ A', OkF C F A' H (σ.set i (some (.ref p))) (setO i m s) ∧ Step C F0 A0 H0 F A' H := by
  obtain ⟨fp, hm, hf⟩ := f
  have cases' : ∀ j b, b ∈ putA A i fp j → (j = i ∧ b ∈ fp) ∨ (j ≠ i ∧ b ∈ A j) := fun j b hb => by
    unfold putA at hb
    split at hb
    · exact .inl ⟨by assumption, hb⟩
    · exact .inr ⟨by assumption, hb⟩
  refine ⟨putA A i fp, ⟨by simp [PL.setO, o.len], o.sub, fun j v e => ?_, fun j m' e => ?_, o.nb, fun j k e => ?_, o.bor, fun j b hb => ?_, fun j l b hj hl => ?_, fun k b hk hb => ?_, o.disB, o.ext⟩, ⟨st.s1, st.s2, fun b hb => ?_, st.s4, st.s5⟩⟩
  · unfold PL.setO at e
    by_cases hj : i = j
    · subst hj
      simp only [List.getElem?_set_self hi] at e
      cases e
    · simp only [List.getElem?_set_ne hj] at e ⊢
      exact o.val j v e
  · unfold PL.setO at e
    by_cases hj : i = j
    · subst hj
      simp only [List.getElem?_set_self hi] at e
      cases e
      refine ⟨p, List.getElem?_set_self (by rw [o.len]; exact hi), ?_⟩
      unfold putA
      rw [if_pos rfl]
      exact hm
    · simp only [List.getElem?_set_ne hj] at e ⊢
      unfold putA
      rw [if_neg (Ne.symm hj)]
      exact o.own j m' e
  · unfold PL.setO at e
    by_cases hj : i = j
    · subst hj
      simp only [List.getElem?_set_self hi] at e
      cases e
    · simp only [List.getElem?_set_ne hj] at e ⊢
      exact o.lent j k e
  · rcases cases' j b hb with ⟨_, h⟩ | ⟨_, h⟩
    · exact ⟨(hf b h).1, hm.there b h⟩
    · exact o.free j b h
  · rcases cases' j b hj with ⟨e1, h1⟩ | ⟨e1, h1⟩
    · rcases cases' l b hl with ⟨e2, h2⟩ | ⟨e2, h2⟩
      · rw [e1, e2]
      · exact absurd ⟨l, h2⟩ (hf b h1).2.1
    · rcases cases' l b hl with ⟨e2, h2⟩ | ⟨e2, h2⟩
      · exact absurd ⟨j, h1⟩ (hf b h2).2.1
      · exact o.dis j l b h1 h2
  · refine ⟨(o.freeB k b hk hb).1, fun j z => ?_⟩
    rcases cases' j b z with ⟨_, h⟩ | ⟨_, h⟩
    · exact (hf b h).2.2.1 ⟨k, hk, hb⟩
    · exact (o.freeB k b hk hb).2 j h
  · obtain ⟨j, hj⟩ := hb
    rcases cases' j b hj with ⟨_, h⟩ | ⟨_, h⟩
    · exact (hf b h).2.2.2.symm
    · exact st.s3 b ⟨j, h⟩
/-- the slots forgotten -/
theorem OkF.forget (o : OkF C F A H σ s) : OkF C F (fun _ => []) H [] ⟨[], s.mu⟩ :=
  ⟨rfl, o.sub, fun i v e => by simp at e, fun i m e => by simp at e, o.nb, fun i k e => by simp at e, o.bor, fun _ _ h => absurd h (by simp), fun _ _ _ h _ => absurd h (by simp), fun k b hk hb => ⟨(o.freeB k b hk hb).1, fun _ h => absurd h (by simp)⟩, o.disB, o.ext⟩
end
/-! ### statements -/
def gSeq (g h : Stt → Fl) : Stt → Fl := fun s => match g s with
  | .nx s1 => h s1
  | .rt v s1 => .rt v s1
  | .rto m s1 => .rto m s1
  | .bk s1 => .bk s1
  | .ct s1 => .ct s1
  | .ex c v s1 => .ex c v s1
  | .stuck => .stuck
def gNop : Stt → Fl := .nx
def Res.fl {α : Type} : Res α → (α → Stt → Fl) → Fl
  | .ok a s, f => f a s
  | .ex c v s, _ => .ex c v s
  | .stuck, _ => .stuck
@[simp] theorem Res.fl_ok {α : Type} (a : α) (s : Stt) (f : α → Stt → Fl) : (Res.ok a s).fl f = f a s := rfl
@[simp] theorem Res.fl_ex {α : Type} (c : Str) (v : PV) (s : Stt) (f : α → Stt → Fl) : (Res.ex c v s : Res α).fl f = .ex c v s := rfl
@[simp] theorem Res.fl_stuck {α : Type} (f : α → Stt → Fl) : (Res.stuck : Res α).fl f = .stuck := rfl
def gOpt : Option Stt → Fl
  | some s => .nx s
  | none => .stuck
def gAsg (fe : Stt → Res PV) (a : PV → Stt → Option Stt) : Stt → Fl := fun s => (fe s).fl fun p s1 => gOpt (a p s1)
def gRet (fe : Stt → Res PV) : Stt → Fl := fun s => (fe s).fl fun p s1 => .rt p s1
def gDrop (fe : Stt → Res PV) : Stt → Fl := fun s => (fe s).fl fun _ s1 => .nx s1
def gIf (ft : Stt → Res Bool) (g h : Stt → Fl) : Stt → Fl := fun s => (ft s).fl fun b s1 => if b = true then g s1 else h s1
def aName (i : Nat) : PV → Stt → Option Stt := fun p s => some (setV i p s)
def asNil : List PV → Stt → Option Stt
  | [], s => some s
  | _ :: _, _ => none
def asCons (a : PV → Stt → Option Stt) (b : List PV → Stt → Option Stt) : List PV → Stt → Option Stt
  | p :: ps, s => (a p s).bind fun s1 => b ps s1
  | [], _ => none
def aTup (n : Nat) (b : List PV → Stt → Option Stt) : PV → Stt → Option Stt
  | .tup l, s => if l.length = n then b l s else none
  | _, _ => none
/-- as Post.seq, into a statement -/
theorem PostS.seq {α β : Type} {C : Fx} {W : WX} {R : Hp → Hp → β → α → Prop} {F H : Hp} {A : Nat → List Addr} {σ : L2.St} {D : Ends} {r : Res α} {f : α → Stt → Fl} {Q1 : β → Hp → Prop}
    (p : PostS C W F A H D (r.fl f))
    (k : ∀ a s v F' A' H', r = .ok a s → OkF C F' A' H' σ s → Step C F A H F' A' H' → R F' H' v a → PostS C W F' A' H' D (f a s) → Q1 v H') : Post C W R F A H σ r Q1 := by
  cases r with
  | ok a s => exact fun v F' A' H' o t q => k a s v F' A' H' rfl o t q (p.after t)
  | ex c v s => exact fun d F' A' H' o t q => p d σ F' A' H' o t q
  | stuck => exact p
section
variable {X : Cx} {C : Fx} {W : WX} {st : Stmt} {sts : List Stmt} {e tg : Expr} {es tgs : List Expr} {pos : Pos} {fe : Stt → Res PV} {g h : Stt → Fl}
theorem dss_nil : DSs X C W [] gNop := ⟨_, pss_nil, fun F A H σ s D o p => p σ F A H o .refl⟩
theorem dss_cons (h1 : DS X C W st g) (h2 : DSs X C W sts h) : DSs X C W (st :: sts) (gSeq g h) := by
  obtain ⟨t1, p1, q1⟩ := h1.pr
  obtain ⟨t2, p2, q2⟩ := h2.pr
  refine ⟨_, pss_cons p1 p2, fun F A H σ s D o p => ?_⟩
  show t1 { D with nx := t2 D } σ H
  refine q1 F A H σ s _ o ?_
  unfold gSeq at p
  cases e : g s with
  | nx s1 =>
    rw [e] at p
    exact fun σ1 F1 A1 H1 o1 st1 => q2 F1 A1 H1 σ1 s1 D o1 (p.after st1)
  | rt v s1 => rw [e] at p; exact p
  | rto v s1 => rw [e] at p; exact p
  | bk s1 => rw [e] at p; exact p
  | ct s1 => rw [e] at p; exact p
  | ex c v s1 => rw [e] at p; exact p
  | stuck => rw [e] at p; exact p
theorem ds_expr (he : DV X C W e fe) (hs : swapsWith e none pos.line X.env = pure false := by rfl) : DS X C W (.Expr e pos) (gDrop fe) := by
  obtain ⟨te, pe, qe⟩ := he.pr
  refine ⟨_, ps_expr pe hs, fun F A H σ s D o p => ?_⟩
  exact qe F A H σ s _ o (PostS.seq p fun a s1 v F1 A1 H1 _ o1 st1 _ p1 => p1 σ F1 A1 H1 o1 .refl)
theorem ds_ret (he : DV X C W e fe) : DS X C W (.Return (some e) pos) (gRet fe) := by
  obtain ⟨te, pe, qe⟩ := he.pr
  refine ⟨_, ps_ret pe, fun F A H σ s D o p => ?_⟩
  exact qe F A H σ s _ o (PostS.seq p fun a s1 v F1 A1 H1 _ o1 st1 r1 p1 => p1 v σ F1 A1 H1 o1 .refl r1)
theorem ds_if {c : Expr} {a b : List Stmt} {fc : Stt → Res Bool} (hc : DT X C W c fc) (ha : DSs X C W a g) (hb : DSs X C W b h) : DS X C W (.If c a b pos) (gIf fc g h) := by
  obtain ⟨tc, pc, qc⟩ := hc.pr
  obtain ⟨ta, pa, qa⟩ := ha.pr
  obtain ⟨tb, pb, qb⟩ := hb.pr
  refine ⟨_, ps_if pc pa pb, fun F A H σ s D o p => ?_⟩
  refine qc F A H σ s _ o (PostS.seq p fun a s1 v F1 A1 H1 _ o1 st1 r1 p1 => ?_)
  obtain rfl : v = a := r1
  cases v with
  | true => exact iteT (qa F1 A1 H1 σ s1 D o1 (by simpa using p1))
  | false => exact iteF (qb F1 A1 H1 σ s1 D o1 (by simpa using p1))
theorem ds_never : DS X C W st (fun _ => .stuck) := ⟨_, ps_never, fun F A H σ s D o p => p⟩
theorem dg_name {vs : Nat → Bool} {i : Nat} {x : Str} (hN : X.N.Nodup) (hi : X.N[i]? = some x) (hx : Loc X.env.scope x) (hf : X.fn x = true ∨ X.env.scope.names.lookup x = some .local := by first | exact .inl rfl | exact .inr rfl | assumption) (hv : vs i = true := by rfl) : DG X C vs (.Name x pos) (aName i) := by
  refine ⟨_, pg_name hN hi hx hf, fun F A H σ s x p s' Q o r e k => ?_⟩
  cases e
  obtain ⟨o1, st1⟩ := o.setV (i := i) r
  exact k _ _ _ _ o1 st1 ⟨by simp, fun j hj => List.getElem?_set_ne (fun e => by rw [e, hj] at hv; cases hv)⟩
theorem dgs_nil {vs : Nat → Bool} : DGs X C vs [] asNil := by
  refine ⟨_, pgs_nil, fun F A H σ s x p s' Q o r e k => ?_⟩
  cases r with
  | nil => cases e; exact ⟨rfl, k _ _ _ _ o .refl (.refl _ _)⟩
  | cons _ _ => cases e
theorem dgs_cons {vs : Nat → Bool} {a : PV → Stt → Option Stt} {b : List PV → Stt → Option Stt} (h1 : DG X C vs tg a) (h2 : DGs X C vs tgs b) (hs : (assignEach (tg :: tgs) X.env).map (·.2) = assign tg X.env :: (assignEach tgs X.env).map (·.2) := by rfl) : DGs X C vs (tg :: tgs) (asCons a b) := by
  obtain ⟨t1, p1, q1⟩ := h1.pr
  obtain ⟨t2, p2, q2⟩ := h2.pr
  refine ⟨_, pgs_cons p1 p2 hs, fun F A H σ s x p s' Q o r e k => ?_⟩
  cases r with
  | nil => cases e
  | @cons v us p ps r1 r2 =>
    have e : (a p s).bind (fun s1 => b ps s1) = some s' := e
    cases e1 : a p s with
    | none => rw [e1] at e; cases e
    | some s1 =>
      rw [e1] at e
      exact ⟨v, us, rfl, q1 F A H σ s v p s1 _ o r1 e1 fun σ1 F1 A1 H1 o1 st1 so1 => q2 F1 A1 H1 σ1 s1 us ps s' Q o1 (r2.mono st1.s1) e fun σ2 F2 A2 H2 o2 st2 so2 => k σ2 F2 A2 H2 o2 (st1.trans st2) (so1.trans so2)⟩
theorem dg_tup {vs : Nat → Bool} {k n : Nat} {b : List PV → Stt → Option Stt} (hK : X.K = C.K) (hc : X.calm = true) (h : DGs X C vs es b) (hn : (assignEach es X.env).length = n := by rfl) (hst : (assignEach es X.env).findIdx? (·.1) = none := by rfl) : DG X C vs (.Tuple es k pos) (aTup n b) := by
  obtain ⟨t, p, q⟩ := h.pr
  refine ⟨_, pg_tup (n := n) hc p hn hst, fun F A H σ s x v s' Q o r e kk => ?_⟩
  cases r with
  | @tup a xs l hT hR =>
    have e : (if l.length = n then b l s else none) = some s' := e
    by_cases hl : l.length = n
    · rw [if_pos hl] at e
      exact ⟨a, xs, rfl, by rw [hK]; exact sqT_mono o.sub hT, by rw [hR.length]; exact hl, q F A H σ s xs l s' Q o hR e kk⟩
    · rw [if_neg hl] at e; cases e
  | _ => cases e
theorem ds_asg {a : PV → Stt → Option Stt} (he : DV X C W e fe) (hg : DG X C anyV tg a) (hs : swapsWithSole [tg] e pos.line X.env = pure false := by rfl) (hw : swappedStores [tg] e X.env = pure none := by rfl)
    (h1 : (assignEach [tg] X.env).map (·.2) = [assign tg X.env] := by rfl) : DS X C W (.Assign [tg] e pos) (gAsg fe a) := by
  obtain ⟨te, pe, qe⟩ := he.pr
  obtain ⟨t, p, q⟩ := hg.pr
  refine ⟨_, ps_asg pe p hs hw h1, fun F A H σ s D o pp => ?_⟩
  show te σ H fun x H1 => t x σ H1 D.nx
  refine qe F A H σ s _ o (PostS.seq pp fun a s1 v F1 A1 H1 _ o1 st1 r1 p1 => ?_)
  unfold gOpt at p1
  split at p1
  · rename_i s2 e2
    exact q F1 A1 H1 σ s1 v a s2 _ o1 r1 e2 fun σ2 F2 A2 H2 o2 st2 _ => p1 σ2 F2 A2 H2 o2 st2
  · exact p1.elim
theorem ds_set {i : Nat} {x : Str} {pos' : Pos} (hN : X.N.Nodup) (hi : X.N[i]? = some x) (hx : Loc X.env.scope x) (he : DV X C W e fe) (hs : swapsWith e (some (.Name x pos')) pos.line X.env = pure false := by rfl) (hf : X.fn x = true ∨ X.env.scope.names.lookup x = some .local := by first | exact .inl rfl | exact .inr rfl | assumption) :
    DS X C W (.Assign [.Name x pos'] e pos) (gAsg fe (aName i)) := by
  obtain ⟨te, pe, qe⟩ := he.pr
  refine ⟨_, ps_set hN hi hx pe hs hf, fun F A H σ s D o pp => ?_⟩
  refine qe F A H σ s _ o (PostS.seq pp fun a s1 v F1 A1 H1 _ o1 st1 r1 p1 => ?_)
  obtain ⟨o2, st2⟩ := o1.setV (i := i) r1
  exact p1 _ _ _ _ o2 st2
end
end PL
/-! PL3: loops, parallel stores, a def's promise and its call. -/
namespace PL
open PySem PySem.Spec PyProof.Rows L2
/-! ### while -/
def whileN (t : Stt → Res Bool) (b : Stt → Fl) : Nat → Stt → Fl
  | 0, _ => .stuck
  | n + 1, s => (t s).fl fun c s1 => if c = true then (match b s1 with
      | .nx s2 => whileN t b n s2
      | .ct s2 => whileN t b n s2
      | .bk s2 => .nx s2
      | .rt v s2 => .rt v s2
      | .rto m s2 => .rto m s2
      | .ex c v s2 => .ex c v s2
      | .stuck => .stuck) else .nx s1
theorem whileN_succ (t : Stt → Res Bool) (b : Stt → Fl) (n : Nat) (s : Stt) : whileN t b (n + 1) s = ((t s).fl fun c s1 => if c = true then (match b s1 with
      | .nx s2 => whileN t b n s2
      | .ct s2 => whileN t b n s2
      | .bk s2 => .nx s2
      | .rt v s2 => .rt v s2
      | .rto m s2 => .rto m s2
      | .ex c v s2 => .ex c v s2
      | .stuck => .stuck) else .nx s1) := rfl
theorem whileN_step (t : Stt → Res Bool) (b : Stt → Fl) : ∀ (n : Nat) (s : Stt), whileN t b n s ≠ .stuck → whileN t b (n + 1) s = whileN t b n s
  | 0, s, h => absurd rfl h
  | n + 1, s, h => by
    rw [whileN_succ t b (n + 1), whileN_succ t b n]
    rw [whileN_succ t b n] at h
    cases e : t s with
    | ok c s1 =>
      rw [e] at h
      cases c with
      | false => rfl
      | true =>
        simp only [Res.fl, if_true] at h ⊢
        cases e2 : b s1 with
        | nx s2 => rw [e2] at h; exact whileN_step t b n s2 h
        | ct s2 => rw [e2] at h; exact whileN_step t b n s2 h
        | bk s2 => rfl
        | rt v s2 => rfl
        | rto v s2 => rfl
        | ex c v s2 => rfl
        | stuck => rfl
    | ex c v s1 => rfl
    | stuck => rfl
theorem whileN_more (t : Stt → Res Bool) (b : Stt → Fl) {n : Nat} {s : Stt} (h : whileN t b n s ≠ .stuck) : ∀ k, whileN t b (n + k) s = whileN t b n s
  | 0 => rfl
  | k + 1 => by
    have ih := whileN_more t b h k
    rw [← Nat.add_assoc, whileN_step t b (n + k) s (by rw [ih]; exact h), ih]
theorem whileN_same (t : Stt → Res Bool) (b : Stt → Fl) {n m : Nat} {s : Stt} (h : whileN t b n s ≠ .stuck) (h' : whileN t b m s ≠ .stuck) : whileN t b n s = whileN t b m s := by
  rcases Nat.le_total n m with z | z
  · obtain ⟨k, rfl⟩ := Nat.exists_eq_add_of_le z
    exact (whileN_more t b h k).symm
  · obtain ⟨k, rfl⟩ := Nat.exists_eq_add_of_le z
    exact whileN_more t b h' k
open Classical in
/-- while: the end of the turns, if there is one -/
noncomputable def gWhile (t : Stt → Res Bool) (b : Stt → Fl) (s : Stt) : Fl :=
  if h : ∃ n, whileN t b n s ≠ .stuck then whileN t b (Classical.choose h) s else .stuck
theorem gWhile_eq {t : Stt → Res Bool} {b : Stt → Fl} {n : Nat} {s : Stt} {r : Fl} (h : whileN t b n s = r) (hr : r ≠ .stuck) : gWhile t b s = r := by
  have hn : whileN t b n s ≠ .stuck := by rw [h]; exact hr
  have hx : ∃ n, whileN t b n s ≠ .stuck := ⟨n, hn⟩
  unfold gWhile
  rw [dif_pos hx, whileN_same t b (Classical.choose_spec hx) hn, h]
theorem gWhile_at {t : Stt → Res Bool} {b : Stt → Fl} {s : Stt} (h : gWhile t b s ≠ .stuck) : ∃ n, whileN t b n s = gWhile t b s := by
  unfold gWhile at h ⊢
  split at h
  · rename_i hx
    rw [dif_pos hx]
    exact ⟨_, rfl⟩
  · exact absurd rfl h
section
variable {X : Cx} {C : Fx} {W : WX} {e tg : Expr} {es tgs : List Expr} {pos : Pos} {fe : Stt → Res PV} {g h : Stt → Fl}
theorem ds_while {c : Expr} {body : List Stmt} {fc : Stt → Res Bool} (hp : PassesOwn (model X.prog X.w) X.A X.env X.xe) (hc : DT X C W c fc) (hb : DSs X C W body g) : DS X C W (.While c body [] pos) (gWhile fc g) := by
  obtain ⟨tc, pc, qc⟩ := hc.pr
  obtain ⟨tb, pb, qb⟩ := hb.pr
  refine ⟨_, ps_while hp pc pb, fun F A H σ s D o p => ?_⟩
  have hns : gWhile fc g s ≠ .stuck := fun z => by rw [z] at p; exact p
  obtain ⟨n, hn⟩ := gWhile_at hns
  refine ⟨fun m σ1 H1 => ∃ F1 A1 s1, OkF C F1 A1 H1 σ1 s1 ∧ Step C F A H F1 A1 H1 ∧ whileN fc g m s1 = gWhile fc g s, ⟨n, F, A, s, o, .refl, hn⟩, ?_⟩
  rintro m σ1 H1 ⟨F1, A1, s1, o1, st1, hm⟩
  have p1 : PostS C W F1 A1 H1 D (whileN fc g m s1) := by rw [hm]; exact p.after st1
  cases m with
  | zero => exact absurd hm.symm hns
  | succ m =>
    rw [whileN_succ] at p1 hm
    refine qc F1 A1 H1 σ1 s1 _ o1 (PostS.seq p1 fun a s2 v F2 A2 H2 he o2 st2 r2 p2 => ?_)
    obtain rfl : v = a := r2
    cases v with
    | false =>
      refine iteF ?_
      exact (by simpa using p2 : PostS C W F2 A2 H2 D (.nx s2)) σ1 F2 A2 H2 o2 .refl
    | true =>
      refine iteT ⟨fun σ3 H3 => ∃ m', m' < m + 1 ∧ ∃ F3 A3 s3, OkF C F3 A3 H3 σ3 s3 ∧ Step C F A H F3 A3 H3 ∧ whileN fc g m' s3 = gWhile fc g s, fun σ3 H3 z => z, ?_⟩
      rw [he] at hm
      simp only [Res.fl, if_true] at hm p2
      refine qb F2 A2 H2 σ1 s2 _ o2 ?_
      cases e2 : g s2 with
      | nx s3 =>
        rw [e2] at hm
        exact fun σ3 F3 A3 H3 o3 st3 => ⟨m, Nat.lt_succ_self m, F3, A3, s3, o3, (st1.trans st2).trans st3, hm⟩
      | ct s3 =>
        rw [e2] at hm
        exact fun σ3 F3 A3 H3 o3 st3 => ⟨m, Nat.lt_succ_self m, F3, A3, s3, o3, (st1.trans st2).trans st3, hm⟩
      | bk s3 => rw [e2] at p2; exact p2
      | rt v s3 => rw [e2] at p2; exact p2
      | rto v s3 => rw [e2] at p2; exact p2
      | ex c v s3 => rw [e2] at p2; exact p2
      | stuck => rw [e2] at p2; exact p2
end
/-! ### for -/
def forL (a : PV → Stt → Option Stt) (b : Stt → Fl) : List PV → Stt → Fl
  | [], s => .nx s
  | p :: r, s => match a p s with
    | none => .stuck
    | some s1 => match b s1 with
      | .nx s2 => forL a b r s2
      | .ct s2 => forL a b r s2
      | .bk s2 => .nx s2
      | .rt v s2 => .rt v s2
      | .rto m s2 => .rto m s2
      | .ex c v s2 => .ex c v s2
      | .stuck => .stuck
/-- what a walk gives: the plain values l one by one -/
def RI (C : Fx) : Hp → Hp → It → List PV → Prop := fun F _ J l => ∃ (G : Hp → Prop) (Y : Nat → Hp → V → Hp → Prop), Walk J l.length G Y ∧ (∀ H2, Same F H2 → G H2) ∧
  ∀ i F1 A1 H1 σ s x H2 p, OkF C F1 A1 H1 σ s → Same F F1 → Y i H1 x H2 → l[i]? = some p → ∃ F2, OkF C F2 A1 H2 σ s ∧ Step C F1 A1 H1 F2 A1 H2 ∧ Rp C F2 x p
structure DI (X : Cx) (C : Fx) (W : WX) (tg iter : Expr) (f : Stt → Res (List PV)) : Prop where
  pr : ∃ ti, PI X tg iter ti ∧ ∀ F A H σ s (Q : It → Hp → Prop), OkF C F A H σ s → Post C W (RI C) F A H σ (f s) Q → ti σ H Q
def gFor (fi : Stt → Res (List PV)) (a : PV → Stt → Option Stt) (b : Stt → Fl) : Stt → Fl := fun s => (fi s).fl fun l s1 => forL a b l s1
theorem forL_cons (a : PV → Stt → Option Stt) (b : Stt → Fl) (p : PV) (r : List PV) (s s1 : Stt) (h : a p s = some s1) : forL a b (p :: r) s = match b s1 with
      | .nx s2 => forL a b r s2
      | .ct s2 => forL a b r s2
      | .bk s2 => .nx s2
      | .rt v s2 => .rt v s2
      | .rto m s2 => .rto m s2
      | .ex c v s2 => .ex c v s2
      | .stuck => .stuck := by
  show (match a p s with | none => _ | some s1 => _) = _
  rw [h]
section
variable {X : Cx} {C : Fx} {W : WX} {e tg : Expr} {es tgs : List Expr} {pos : Pos} {fe : Stt → Res PV} {g h : Stt → Fl}
theorem ds_for {iter : Expr} {body : List Stmt} {fi : Stt → Res (List PV)} {a : PV → Stt → Option Stt} (hp : PassesOwn (model X.prog X.w) X.A X.env X.xe) (hc : X.calm = true) (hi : DI X C W tg iter fi) (hg : DG X C anyV tg a) (hb : DSs X C W body g)
    (hs : ∀ x, foldedSetIterable iter X.env x = pure x := by intro _; rfl) : DS X C W (.For tg iter body [] pos) (gFor fi a g) := by
  obtain ⟨ti, pi, qi⟩ := hi.pr
  obtain ⟨tt, pt, qt⟩ := hg.pr
  obtain ⟨tb, pb, qb⟩ := hb.pr
  refine ⟨_, ps_for hp hc pi pt pb hs, fun F A H σ s D o p => ?_⟩
  show ti σ H fun J H1 => _
  refine qi F A H σ s _ o (PostS.seq p fun l s1 J F1 A1 H1 _ o1 st1 r1 p1 => ?_)
  obtain ⟨G, Y, w, hG, hY⟩ := r1
  -- the invariant: the rest of the list is what is left
  refine for_it w (fun i σ2 H2 => ∃ F2 A2 s2, OkF C F2 A2 H2 σ2 s2 ∧ Step C F1 A1 H1 F2 A2 H2 ∧ PostS C W F2 A2 H2 D (forL a g (l.drop i) s2)) ⟨F1, A1, s1, o1, .refl, p1⟩
    (fun i σ2 H2 _ ⟨F2, A2, s2, o2, st2, _⟩ => hG H2 (st2.s1.trans o2.sub)) ?_ ?_
  · rintro i x σ2 H2 H3 hi ⟨F2, A2, s2, o2, st2, p2⟩ y
    have hl : l[i]? = some l[i] := List.getElem?_eq_getElem hi
    obtain ⟨F3, o3, st3, r3⟩ := hY i F2 A2 H2 σ2 s2 x H3 l[i] o2 st2.s1 y hl
    rw [List.drop_eq_getElem_cons hi] at p2
    cases ea : a l[i] s2 with
    | none =>
      have z : forL a g (l[i] :: l.drop (i + 1)) s2 = .stuck := by
        show (match a l[i] s2 with | none => _ | some s1 => _) = _
        rw [ea]
      rw [z] at p2; exact p2.elim
    | some s3 =>
      rw [forL_cons _ _ _ _ _ _ ea] at p2
      refine qt F3 A2 H3 σ2 s2 x l[i] s3 _ o3 r3 ea fun σ4 F4 A4 H4 o4 st4 _ => ?_
      have p4 := p2.after (st3.trans st4)
      have sA := (st2.trans st3).trans st4
      refine qb F4 A4 H4 σ4 s3 _ o4 ?_
      cases e2 : g s3 with
      | nx s5 =>
        rw [e2] at p4
        exact fun σ5 F5 A5 H5 o5 st5 => ⟨F5, A5, s5, o5, sA.trans st5, p4.after st5⟩
      | ct s5 =>
        rw [e2] at p4
        exact fun σ5 F5 A5 H5 o5 st5 => ⟨F5, A5, s5, o5, sA.trans st5, p4.after st5⟩
      | bk s5 => rw [e2] at p4; exact p4
      | rt v s5 => rw [e2] at p4; exact p4
      | rto v s5 => rw [e2] at p4; exact p4
      | ex c v s5 => rw [e2] at p4; exact p4
      | stuck => rw [e2] at p4; exact p4
  · rintro σ2 H2 ⟨F2, A2, s2, o2, st2, p2⟩
    rw [List.drop_of_length_le (Nat.le_refl _)] at p2
    exact p2 σ2 F2 A2 H2 o2 .refl
end
/-! ### what is walked -/
section
variable {X : Cx} {C : Fx} {W : WX} {e tg : Expr} {es tgs : List Expr} {pos : Pos} {fe : Stt → Res PV} {fa : Stt → Res (List PV)}
theorem yat_ok {F : Hp} {xs : List V} {l : List PV} (hr : Rps C F xs l) : ∀ i F1 A1 H1 σ s x H2 p, OkF C F1 A1 H1 σ s → Same F F1 → YAt xs i H1 x H2 → l[i]? = some p → ∃ F2, OkF C F2 A1 H2 σ s ∧ Step C F1 A1 H1 F2 A1 H2 ∧ Rp C F2 x p := by
  rintro i F1 A1 H1 σ s x H2 p o sm ⟨rfl, hx⟩ hp
  obtain ⟨q, e, r⟩ := hr.getV hx
  rw [hp] at e; cases e
  exact ⟨F1, o, .refl, r.mono sm⟩
/-- lo, lo + 1, .. -/
def rng (lo : Int) (n : Nat) : List PV := (List.range n).map fun i : Nat => PV.int (lo + i)
theorem rng_length (lo : Int) (n : Nat) : (rng lo n).length = n := by simp [rng]
/-- held back: the kernel shall not count it -/
noncomputable def inR (j : Int) : Bool := Classical.choose (⟨decide (-(2 ^ 62) ≤ j ∧ j < 2 ^ 62), rfl⟩ : ∃ b : Bool, b = decide (-(2 ^ 62) ≤ j ∧ j < 2 ^ 62))
noncomputable def iRange1 (fa : Stt → Res (List PV)) : Stt → Res (List PV) := fun s => (fa s).bind fun p s1 => match p with
  | [.int j] => if inR j = true then .ok (rng 0 j.toNat) s1 else .stuck
  | _ => .stuck
noncomputable def iRange2 (fa : Stt → Res (List PV)) : Stt → Res (List PV) := fun s => (fa s).bind fun p s1 => match p with
  | [.int i, .int j] => if (inR i && inR j) = true then .ok (rng i (j - i).toNat) s1 else .stuck
  | _ => .stuck
theorem rng_ok {F : Hp} (lo : Int) (n : Nat) : ∀ i F1 A1 H1 σ s x H2 p, OkF C F1 A1 H1 σ s → Same F F1 → YFn (fun i => V.int (lo + (i : Nat))) i H1 x H2 → (rng lo n)[i]? = some p → ∃ F2, OkF C F2 A1 H2 σ s ∧ Step C F1 A1 H1 F2 A1 H2 ∧ Rp C F2 x p := by
  rintro i F1 A1 H1 σ s x H2 p o sm ⟨rfl, rfl⟩ hp
  unfold rng at hp
  rw [List.getElem?_map] at hp
  cases e : (List.range n)[i]? with
  | none => rw [e] at hp; cases hp
  | some k =>
    rw [e] at hp
    obtain ⟨h1, h2⟩ := List.getElem?_eq_some_iff.mp e
    rw [List.getElem_range] at h2
    subst h2
    cases hp
    exact ⟨F1, o, .refl, .int _⟩
end
/-! ### a def's promise -/
/-- what a def comes to: a value, or a fresh object, and what the lent objects hold then -/
inductive FRes where
  | ok (v : PV) (mu : List MO) | own (m : MO) (mu : List MO) | ex (c : Str) (v : PV) (mu : List MO) | stuck
def noA : Nat → List Addr := fun _ => []
/-- the arguments: plain values, or lent objects -/
inductive RpA (C : Fx) (F : Hp) : List V → List SV → Prop
  | nil : RpA C F [] []
  | val {v : V} {p : PV} {vs : List V} {ps : List SV} : Rp C F v p → RpA C F vs ps → RpA C F (v :: vs) (.val p :: ps)
  | bor {k : Nat} {vs : List V} {ps : List SV} : k < C.nb → RpA C F vs ps → RpA C F (.ref (C.be k) :: vs) (.bor k :: ps)
theorem RpA.length {C : Fx} {F : Hp} {vs : List V} {ps : List SV} (h : RpA C F vs ps) : vs.length = ps.length := by
  induction h with
  | nil => rfl
  | val _ _ ih => simp [ih]
  | bor _ _ ih => simp [ih]
theorem RpA.at {C : Fx} {F : Hp} : ∀ {vs : List V} {ps : List SV} {i : Nat} {p : SV}, RpA C F vs ps → ps[i]? = some p → ∃ v, vs[i]? = some v ∧ ((∃ q, p = .val q ∧ Rp C F v q) ∨ ∃ k, p = .bor k ∧ k < C.nb ∧ v = .ref (C.be k))
  | _, _, _, _, .nil, e => by simp at e
  | _, _, 0, _, .val r _, e => by simp at e; subst e; exact ⟨_, rfl, .inl ⟨_, rfl, r⟩⟩
  | _, _, 0, _, .bor r _, e => by simp at e; subst e; exact ⟨_, rfl, .inr ⟨_, rfl, r, rfl⟩⟩
  | _, _, i + 1, _, .val _ t, e => by
    obtain ⟨v, h1, h2⟩ := RpA.at (i := i) t (by simpa using e)
    exact ⟨v, by simpa using h1, h2⟩
  | _, _, i + 1, _, .bor _ t, e => by
    obtain ⟨v, h1, h2⟩ := RpA.at (i := i) t (by simpa using e)
    exact ⟨v, by simpa using h1, h2⟩
def PostF (C : Fx) (F H : Hp) (Q : VK) (E : XK) : FRes → Prop
  | .ok v mu => ∀ u F' H', OkF C F' noA H' [] ⟨[], mu⟩ → Step C F noA H F' noA H' → Rp C F' u v → Q u H'
  | .own m mu => ∀ p F' H', OkF C F' noA H' [] ⟨[], mu⟩ → Step C F noA H F' noA H' → Fresh C F noA H F' noA H' p m → Q (.ref p) H'
  | .ex c v mu => ∀ d F' H', OkF C F' noA H' [] ⟨[], mu⟩ → Step C F noA H F' noA H' → XAt C F' H' d v → E (.ref (C.cl c)) (some d) H'
  | .stuck => False
/-- the promise: m tells all -/
def spOf (K : PySem.W.Frag) (cl : Str → Addr) (n : Nat) (m : List SV → List MO → FRes) : Sp := fun vs H Q E => vs.length = n ∧ ∃ C F ps mu, C.K = K ∧ C.cl = cl ∧ OkF C F noA H [] ⟨[], mu⟩ ∧ RpA C F vs ps ∧ PostF C F H Q E (m ps mu)
/-- from the body's end -/
def endF : Fl → FRes
  | .nx s => .ok .non s.mu
  | .rt v s => .ok v s.mu
  | .rto m s => .own m s.mu
  | .ex c v s => .ex c v s.mu
  | _ => .stuck
def start0 (n : Nat) (ps : List SV) (mu : List MO) : Stt := ⟨ps.map some ++ List.replicate (n - ps.length) none, mu⟩
def mOf (n : Nat) (g : Stt → Fl) : List SV → List MO → FRes := fun ps mu => endF (g (start0 n ps mu))
theorem okF_start {C : Fx} {F H : Hp} {N : List Str} {vs : List V} {ps : List SV} {mu : List MO} (o : OkF C F noA H [] ⟨[], mu⟩) (r : RpA C F vs ps) : OkF C F noA H (L2.start N vs) (start0 N.length ps mu) := by
  have key : ∀ (i : Nat) (x : SV), (start0 N.length ps mu).ro[i]? = some (some x) → ps[i]? = some x := fun i x e => by
    unfold start0 at e
    simp only at e
    by_cases hi : i < (ps.map some).length
    · rw [List.getElem?_append_left hi, List.getElem?_map] at e
      cases z : ps[i]? with
      | none => rw [z] at e; cases e
      | some y => rw [z] at e; cases e; rfl
    · rw [List.getElem?_append_right (Nat.le_of_not_lt hi), List.getElem?_replicate] at e
      split at e <;> cases e
  have st : ∀ (i : Nat) (v : V), vs[i]? = some v → (L2.start N vs)[i]? = some (some v) := fun i v e => by
    unfold L2.start
    have hi : i < vs.length := (List.getElem?_eq_some_iff.mp e).1
    rw [List.getElem?_append_left (by simpa using hi), List.getElem?_map, e]
    rfl
  refine ⟨?_, o.sub, fun i v e => ?_, fun i m e => ?_, o.nb, fun i k e => ?_, o.bor, fun _ _ h => absurd h (by simp [noA]), fun _ _ _ h _ => absurd h (by simp [noA]), o.freeB, o.disB, o.ext⟩
  · unfold L2.start start0
    simp only [List.length_append, List.length_map, List.length_replicate, r.length]
  · obtain ⟨u, h1, h2⟩ := r.at (key i _ e)
    rcases h2 with ⟨q, e1, h3⟩ | ⟨k, e1, _⟩
    · cases e1; exact ⟨u, st i u h1, h3⟩
    · cases e1
  · obtain ⟨u, h1, h2⟩ := r.at (key i _ e)
    rcases h2 with ⟨q, e1, h3⟩ | ⟨k, e1, _⟩ <;> cases e1
  · obtain ⟨u, h1, h2⟩ := r.at (key i _ e)
    rcases h2 with ⟨q, e1, h3⟩ | ⟨k', e1, h3, h4⟩
    · cases e1
    · cases e1; subst h4; exact ⟨st i _ h1, h3⟩
theorem Step.forget {C : Fx} {F H F' H' : Hp} {A' : Nat → List Addr} (st : Step C F noA H F' A' H') : Step C F noA H F' noA H' :=
  ⟨st.s1, st.s2, fun b ⟨i, h⟩ => absurd h (by simp [noA]), st.s4, st.s5⟩
theorem postF_end {C : Fx} {W : WX} {F H : Hp} {Q : VK} {E : XK} {r : Fl} (hW : ∀ c d σ H, E c d H → W c d σ H) (p : PostF C F H Q E (endF r)) : PostS C W F noA H { nx := fun _ H' => Q .non H', rt := Q } r := by
  cases r with
  | nx s => exact fun σ F' A' H' o st => p .non F' H' o.forget st.forget .non
  | rt v s => exact fun u σ F' A' H' o st r => p u F' H' o.forget st.forget r
  | rto m s =>
    refine fun q σ F' A' H' o st f => p q F' H' o.forget st.forget ?_
    obtain ⟨fp, h1, h2⟩ := f
    refine ⟨fp, h1, fun b hb => ?_⟩
    obtain ⟨k1, k2, k3, k4⟩ := h2 b hb
    exact ⟨k1, fun ⟨i, z⟩ => absurd z (by simp [noA]), k3, k4⟩
  | ex c v s => exact fun d σ F' A' H' o st x => hW _ _ _ _ (p d F' H' o.forget st.forget x)
  | bk s => exact p.elim
  | ct s => exact p.elim
  | stuck => exact p.elim
section
variable {P : Program} {w : World} {K : PySem.W.Frag} {mg : Str → Option Value} {base : Heap} {cl : Str → Addr}
/-- what a body's derivation may use -/
structure Bd (X : Cx) (W : WX) : Prop where
  calm : X.calm = true
  own : PassesOwn (model X.prog X.w) X.A X.env X.xe
  tk : Takes X W
  hd : X.A.handled = none
  gu : X.A.guards = some []
abbrev FnP (P : Program) (w : World) (K : PySem.W.Frag) (mg : Str → Option Value) (base : Heap) (cl : Str → Addr) (k : Nat) (f : Addr) (fd : FuncData) (ps : List Str) (m : List SV → List MO → FRes) : Prop := FnG P w K mg base (L2.CX P w) k f fd ps (spOf K cl ps.length m)
/-- THE RULE for a def -/
theorem fnp {x qual : Str} {st : Stmt} {f : Addr} {fd : FuncData} {N ps : List Str} {k n : Nat} {g : Stt → Fl} (F : Fun K x qual st f fd) (S : FnScope N ps (defScope st)) (hn : N.length = n)
    (hbody : ∀ (cdv : Value) (A : Around) (outer : List Env) (s : Shared) (H : Hp) (E : XK) (C : Fx), C.K = K → C.cl = cl → Room k (A.deeper (envOfC qual (defScope st) s.heap.objs.size f cdv)) →
      Bd (cxOf (L2.CX P w) P w K mg base N qual (defScope st) f cdv A outer s H E) (fun c d _ H => E c d H) →
      DSs (cxOf (L2.CX P w) P w K mg base N qual (defScope st) f cdv A outer s H E) C (fun c d _ H => E c d H) (defBody st) g) : FnP P w K mg base cl (k + 1) f fd ps (mOf n g) := by
  subst hn
  refine fng_of F S (fun vs H Q E h => h.1) (fun cdv A outer s H vs Q E hr gu h => ?_)
  obtain ⟨hl, C, F0, as, mu, hK, hcl, o, r, p⟩ := h
  have bd : Bd (cxOf (L2.CX P w) P w K mg base N qual (defScope st) f cdv A outer s H E) (fun c d _ H => E c d H) := ⟨rfl, passes_of (K := fun e s'' => L2.CX P w outer H s E e s'') rfl, takes_of rfl rfl rfl rfl, hr.hd, gu⟩
  obtain ⟨t, h1, h2⟩ := (hbody cdv A outer s H E C hK hcl hr bd).pr
  exact ⟨t, h1, h2 F0 noA H _ _ _ (okF_start (N := N) o r) (postF_end (fun _ _ _ _ h => h) p)⟩
end
end PL
/-! PL4: fresh objects, calls of defs. -/
namespace PL
open PySem PySem.Spec PyProof.Rows L2
/-! ### fresh objects -/
def PostO (C : Fx) (W : WX) (F : Hp) (A : Nat → List Addr) (H : Hp) (σ : L2.St) (r : Res MO) (Q : VK) : Prop :=
  match r with
  | .ok m s => ∀ p F' A' H', OkF C F' A' H' σ s → Step C F A H F' A' H' → Fresh C F A H F' A' H' p m → Q (.ref p) H'
  | .ex c v s => ∀ d F' A' H', OkF C F' A' H' σ s → Step C F A H F' A' H' → XAt C F' H' d v → W (.ref (C.cl c)) (some d) σ H'
  | .stuck => False
/-- e comes to a fresh object -/
structure DO (X : Cx) (C : Fx) (W : WX) (e : Expr) (f : Stt → Res MO) : Prop where
  pr : ∃ te, PE X e te ∧ ∀ F A H σ s Q, OkF C F A H σ s → PostO C W F A H σ (f s) Q → te σ H Q
theorem PostO.after {C : Fx} {W : WX} {F F1 H H1 : Hp} {A A1 : Nat → List Addr} {σ : L2.St} {r : Res MO} {Q : VK} (st : Step C F A H F1 A1 H1) (p : PostO C W F A H σ r Q) : PostO C W F1 A1 H1 σ r Q := by
  cases r with
  | ok a s => exact fun v F' A' H' o t q => p v F' A' H' o (st.trans t) (q.after st)
  | ex c v s => exact fun d F' A' H' o t q => p d F' A' H' o (st.trans t) q
  | stuck => exact p
theorem PostO.seq {α β : Type} {C : Fx} {W : WX} {R : Hp → Hp → β → α → Prop} {F H : Hp} {A : Nat → List Addr} {σ : L2.St} {r : Res α} {f : α → Stt → Res MO} {Q : VK} {Q1 : β → Hp → Prop}
    (p : PostO C W F A H σ (r.bind f) Q)
    (k : ∀ a s v F' A' H', r = .ok a s → OkF C F' A' H' σ s → Step C F A H F' A' H' → R F' H' v a → PostO C W F' A' H' σ (f a s) Q → Q1 v H') : Post C W R F A H σ r Q1 := by
  cases r with
  | ok a s => exact fun v F' A' H' o t q => k a s v F' A' H' rfl o t q (p.after t)
  | ex c v s => exact p
  | stuck => exact p
/-- a new object that is not known to the plain part -/
theorem OkF.fresh {C : Fx} {F H : Hp} {A : Nat → List Addr} {σ : L2.St} {s : Stt} {p : Addr} {u : HO} {m : MO} (o : OkF C F A H σ s) (hp : H p = none) (hm : MAt C F (upd H p u) p [p] m) : OkF C F A (upd H p u) σ s ∧ Step C F A H F A (upd H p u) ∧ Fresh C F A H F A (upd H p u) p m := by
  have hF : F p = none := o.sub.free hp
  have sH : Same H (upd H p u) := fun b u e => by rw [upd_ne (ne_of_none e hp)]; exact e
  have nA : ∀ i, p ∉ A i := fun i z => (o.free i p z).2 hp
  have nB : ∀ q, q < C.nb → p ∉ C.Bf q := fun q hq z => by
    have hm : q < s.mu.length := by rw [o.nb]; exact hq
    exact (o.bor q s.mu[q] (List.getElem?_eq_getElem hm)).there p z hp
  refine ⟨⟨o.len, o.sub.trans sH, o.val, fun i m e => ?_, o.nb, o.lent, fun q m e => ?_, fun i b hb => ?_, o.dis, o.freeB, o.disB, ⟨o.ext.1, o.ext.2.ext0 sH⟩⟩, ⟨fun _ _ h => h, fun _ h => .inl h, fun _ h => .inl h, fun b x e _ _ _ => sH b x e, fun b hb => ?_⟩, [p], hm, fun b hb => ?_⟩
  · obtain ⟨q, h1, h2⟩ := o.own i m e
    exact ⟨q, h1, h2.keep (fun _ _ h => h) fun b x _ => sH b x⟩
  · exact (o.bor q m e).keep (fun _ _ h => h) fun b x _ => sH b x
  · obtain ⟨h1, h2⟩ := o.free i b hb
    have hne : b ≠ p := fun z => nA i (z ▸ hb)
    exact ⟨h1, by rw [upd_ne hne]; exact h2⟩
  · by_cases hbp : b = p
    · subst hbp; rw [upd_same]; simp
    · rw [upd_ne hbp]; exact hb
  · rw [List.mem_singleton] at hb
    subst hb
    exact ⟨hF, fun ⟨i, z⟩ => nA i z, fun ⟨q, hq, z⟩ => nB q hq z, .inl hp⟩
/-- a fresh list is a plain value from now on -/
theorem OkF.freeze {C : Fx} {F F' H H' : Hp} {A A' : Nat → List Addr} {σ : L2.St} {s : Stt} {p : Addr} {l : List PV} (o : OkF C F' A' H' σ s) (st : Step C F A H F' A' H') (f : Fresh C F A H F' A' H' p (.lst l)) :
    ∃ F2, OkF C F2 A' H' σ s ∧ Step C F A H F2 A' H' ∧ Rp C F2 (.ref p) (.lst l) := by
  obtain ⟨fp, ⟨rfl, xs, hx, hr⟩, hf⟩ := f
  obtain ⟨k1, k2, k3, k4⟩ := hf p List.mem_cons_self
  have sF : Same F' (upd F' p (.lst xs)) := fun b u e => by rw [upd_ne (ne_of_none e k1)]; exact e
  refine ⟨upd F' p (.lst xs), ⟨o.len, fun b u e => ?_, fun i v e => ?_, fun i m e => ?_, o.nb, o.lent, fun q m e => ?_, fun i b hb => ?_, o.dis, fun q b hq hb => ?_, o.disB, ⟨o.ext.1.trans sF, o.ext.2.off sF (fun b ps e h => by rw [upd_ne (fun z => by rw [z, hx] at e; cases e)]; exact h) fun _ _ _ h => h⟩⟩, ⟨st.s1.trans sF, fun b hb => ?_, st.s3, st.s4, st.s5⟩, .lst upd_same (hr.mono sF)⟩
  · by_cases hb : b = p
    · subst hb; rw [upd_same] at e; cases e; exact hx
    · rw [upd_ne hb] at e; exact o.sub b u e
  · obtain ⟨u, h1, h2⟩ := o.val i v e
    exact ⟨u, h1, h2.mono sF⟩
  · obtain ⟨q, h1, h2⟩ := o.own i m e
    exact ⟨q, h1, h2.keep sF fun b x _ h => h⟩
  · exact (o.bor q m e).keep sF fun b x _ h => h
  · obtain ⟨h1, h2⟩ := o.free i b hb
    have hne : b ≠ p := fun z => k2 ⟨i, z ▸ hb⟩
    exact ⟨by rw [upd_ne hne]; exact h1, h2⟩
  · obtain ⟨h1, h2⟩ := o.freeB q b hq hb
    have hne : b ≠ p := fun z => k3 ⟨q, hq, z ▸ hb⟩
    exact ⟨by rw [upd_ne hne]; exact h1, h2⟩
  · by_cases hbp : b = p
    · subst hbp
      rcases k4 with z | z
      · exact .inr (.inl z)
      · exact .inr (.inr z)
    · rw [upd_ne hbp] at hb; exact st.s2 b hb
def frz (f : Stt → Res MO) : Stt → Res PV := fun s => (f s).bind fun m s1 => match m with
  | .lst l => .ok (.lst l) s1
  | _ => .stuck
section
variable {X : Cx} {C : Fx} {W : WX} {e tg : Expr} {es : List Expr} {pos : Pos} {fe : Stt → Res PV} {fo : Stt → Res MO} {fa : Stt → Res (List PV)} {g h : Stt → Fl}
theorem dv_frz (he : DO X C W e fo) : DV X C W e (frz fo) := by
  obtain ⟨te, pe, qe⟩ := he.pr
  refine ⟨te, pe, fun F A H σ s Q o p => qe F A H σ s Q o ?_⟩
  unfold frz at p
  cases hr : fo s with
  | ok m s1 =>
    rw [hr] at p
    cases m with
    | lst l =>
      intro q F' A' H' o1 st1 fr
      obtain ⟨F2, o2, st2, r2⟩ := o1.freeze st1 fr
      exact p _ F2 A' H' o2 st2 r2
    | _ => exact p.elim
  | ex c v s1 => rw [hr] at p; exact p
  | stuck => rw [hr] at p; exact p
def gAsgO (i : Nat) (fo : Stt → Res MO) : Stt → Fl := fun s => (fo s).fl fun m s1 => if i < s1.ro.length then .nx (setO i m s1) else .stuck
theorem ds_setO {i : Nat} {x : Str} {pos' : Pos} (hN : X.N.Nodup) (hi : X.N[i]? = some x) (hx : Loc X.env.scope x) (he : DO X C W e fo) (hs : swapsWith e (some (.Name x pos')) pos.line X.env = pure false := by rfl) (hf : X.fn x = true ∨ X.env.scope.names.lookup x = some .local := by first | exact .inl rfl | exact .inr rfl | assumption) :
    DS X C W (.Assign [.Name x pos'] e pos) (gAsgO i fo) := by
  obtain ⟨te, pe, qe⟩ := he.pr
  refine ⟨_, ps_set hN hi hx pe hs hf, fun F A H σ s D o pp => ?_⟩
  refine qe F A H σ s _ o ?_
  unfold gAsgO at pp
  cases hr : fo s with
  | ok m s1 =>
    rw [hr] at pp
    intro q F' A' H' o1 st1 fr
    simp only [Res.fl] at pp
    split at pp
    · rename_i hl
      obtain ⟨A2, o2, st2⟩ := o1.setO st1 fr hl
      exact pp _ F' A2 H' o2 st2
    · exact pp.elim
  | ex c v s1 => rw [hr] at pp; exact fun d F' A' H' => pp d σ F' A' H'
  | stuck => rw [hr] at pp; exact pp
def gRetO (fo : Stt → Res MO) : Stt → Fl := fun s => (fo s).fl fun m s1 => .rto m s1
theorem ds_retO (he : DO X C W e fo) : DS X C W (.Return (some e) pos) (gRetO fo) := by
  obtain ⟨te, pe, qe⟩ := he.pr
  refine ⟨_, ps_ret pe, fun F A H σ s D o pp => ?_⟩
  refine qe F A H σ s _ o ?_
  unfold gRetO at pp
  cases hr : fo s with
  | ok m s1 =>
    rw [hr] at pp
    exact fun q F' A' H' o1 st1 fr => pp q σ F' A' H' o1 st1 fr
  | ex c v s1 => rw [hr] at pp; exact fun d F' A' H' => pp d σ F' A' H'
  | stuck => rw [hr] at pp; exact pp
/-- displays -/
def eTup (fa : Stt → Res (List PV)) : Stt → Res PV := fun s => (fa s).bind fun l s1 => if l.length ≤ 16777216 then .ok (.tup l) s1 else .stuck
def oLst (fa : Stt → Res (List PV)) : Stt → Res MO := fun s => (fa s).bind fun l s1 => if l.length ≤ 16777216 then .ok (.lst l) s1 else .stuck
theorem line_le {n : Nat} (h : n ≤ 16777216) : n ≤ sizeLine := by rw [sizeLine_eq]; exact h
theorem dv_tup {x1} (ha : DA X C W es fa) : DV X C W (.Tuple es x1 pos) (eTup fa) := by
  obtain ⟨ta, pa, qa⟩ := ha.pr
  refine ⟨_, pe_tup pa, fun F A H σ s Q o p => ?_⟩
  refine qa F A H σ s _ o (p.seq fun l s1 xs F1 A1 H1 _ o1 st1 r1 p1 => ?_)
  split at p1
  · rename_i hl
    refine ⟨by rw [r1.length]; exact line_le hl, fun q hq => ?_⟩
    obtain ⟨o2, st2⟩ := o1.alloc (o := .tup xs) hq
    exact p1 _ _ _ _ o2 st2 (.tup (.of upd_same) (r1.mono st2.s1))
  · exact p1.elim
theorem do_lst (ha : DA X C W es fa) : DO X C W (.List es pos) (oLst fa) := by
  obtain ⟨ta, pa, qa⟩ := ha.pr
  refine ⟨_, pe_lst pa, fun F A H σ s Q o p => ?_⟩
  refine qa F A H σ s _ o (PostO.seq p fun l s1 xs F1 A1 H1 _ o1 st1 r1 p1 => ?_)
  split at p1
  · rename_i hl
    refine ⟨by rw [r1.length]; exact line_le hl, fun q hq => ?_⟩
    obtain ⟨o2, st2, f2⟩ := o1.fresh (u := .lst xs) (m := .lst l) hq ⟨rfl, xs, upd_same, r1⟩
    exact p1 q _ _ _ o2 st2 f2
  · exact p1.elim
end
/-! ### calls of defs -/
inductive AV where
  | pv (p : PV) | sl (i : Nat)
inductive RAs (C : Fx) (σ : L2.St) (F : Hp) : List V → List AV → Prop
  | nil : RAs C σ F [] []
  | pv {v : V} {p : PV} {vs : List V} {ps : List AV} : Rp C F v p → RAs C σ F vs ps → RAs C σ F (v :: vs) (.pv p :: ps)
  | sl {v : V} {i : Nat} {vs : List V} {ps : List AV} : σ[i]? = some (some v) → RAs C σ F vs ps → RAs C σ F (v :: vs) (.sl i :: ps)
theorem RAs.mono {C : Fx} {σ : L2.St} {F F' : Hp} (e : Same F F') {vs : List V} {ps : List AV} (h : RAs C σ F vs ps) : RAs C σ F' vs ps := by
  induction h with
  | nil => exact .nil
  | pv r _ ih => exact .pv (r.mono e) ih
  | sl r _ ih => exact .sl r ih
structure DL (X : Cx) (C : Fx) (W : WX) (es : List Expr) (f : Stt → Res (List AV)) : Prop where
  pr : ∃ te, PA X es te ∧ ∀ F A H σ s Q, OkF C F A H σ s → Post C W (fun F _ vs ps => RAs C σ F vs ps) F A H σ (f s) Q → te σ H Q
def lNil : Stt → Res (List AV) := fun s => .ok [] s
def lPv (fa : Stt → Res PV) (fb : Stt → Res (List AV)) : Stt → Res (List AV) := fun s => (fa s).bind fun p s1 => (fb s1).bind fun q s2 => .ok (.pv p :: q) s2
def lSl (i : Nat) (fb : Stt → Res (List AV)) : Stt → Res (List AV) := fun s => match s.ro[i]? with
  | some (some (.own _)) => (fb s).bind fun q s2 => .ok (.sl i :: q) s2
  | some (some (.bor _)) => (fb s).bind fun q s2 => .ok (.sl i :: q) s2
  | _ => .stuck
/-- an object's name: the one that slot i owns, the k-th that was lent -/
inductive MKey where
  | inl (i : Nat) | inr (k : Nat)
  deriving DecidableEq
def keyOf (s : Stt) (i : Nat) : Option MKey := match s.ro[i]? with
  | some (some (.own _)) => some (.inl i)
  | some (some (.bor k)) => some (.inr k)
  | _ => none
def getK (s : Stt) : MKey → Option MO
  | .inl i => match s.ro[i]? with
    | some (some (.own m)) => some m
    | _ => none
  | .inr k => s.mu[k]?
def setK (s : Stt) : MKey → MO → Stt
  | .inl i, m => ⟨s.ro.set i (some (.own m)), s.mu⟩
  | .inr k, m => ⟨s.ro, s.mu.set k m⟩
def lowerA (s : Stt) : List AV → List MKey → Option (List SV × List MKey)
  | [], ks => some ([], ks)
  | .pv p :: r, ks => match lowerA s r ks with
    | some (ps, ks') => some (.val p :: ps, ks')
    | none => none
  | .sl i :: r, ks => match keyOf s i with
    | none => none
    | some k => match lowerA s r (ks ++ [k]) with
      | some (ps, ks') => some (.bor ks.length :: ps, ks')
      | none => none
def getAll (s : Stt) : List MKey → Option (List MO)
  | [] => some []
  | k :: r => match getK s k, getAll s r with
    | some m, some ms => some (m :: ms)
    | _, _ => none
def setAll : Stt → List MKey → List MO → Stt
  | s, k :: r, m :: ms => setAll (setK s k m) r ms
  | s, _, _ => s
def distinct : List MKey → Bool
  | [] => true
  | k :: r => decide (k ∉ r) && distinct r
def eCall (m : List SV → List MO → FRes) (fa : Stt → Res (List AV)) : Stt → Res PV := fun s => (fa s).bind fun avs s1 => match lowerA s1 avs [] with
  | none => .stuck
  | some (ps, ks) => if distinct ks = true then match getAll s1 ks with
    | none => .stuck
    | some ms => match m ps ms with
      | .ok v ms' => .ok v (setAll s1 ks ms')
      | .own (.lst l) ms' => .ok (.lst l) (setAll s1 ks ms')
      | .own _ _ => .stuck
      | .ex c v ms' => .ex c v (setAll s1 ks ms')
      | .stuck => .stuck
    else .stuck
def oCall (m : List SV → List MO → FRes) (fa : Stt → Res (List AV)) : Stt → Res MO := fun s => (fa s).bind fun avs s1 => match lowerA s1 avs [] with
  | none => .stuck
  | some (ps, ks) => if distinct ks = true then match getAll s1 ks with
    | none => .stuck
    | some ms => match m ps ms with
      | .ok _ _ => .stuck
      | .own o ms' => .ok o (setAll s1 ks ms')
      | .ex c v ms' => .ex c v (setAll s1 ks ms')
      | .stuck => .stuck
    else .stuck
end PL
/-! PL5: a call of a def: what the callee sees, what the caller has then. -/
namespace PL
open PySem PySem.Spec PyProof.Rows L2
mutual
theorem Rp.cg {C D : Fx} {F : Hp} (hk : D.K = C.K) (hc : D.cl = C.cl) (hf : D.fa = C.fa := by rfl) : ∀ {v : V} {p : PV}, Rp C F v p → Rp D F v p
  | _, _, .non => .non
  | _, _, .bl b => .bl b
  | _, _, .int i => .int i
  | _, _, .str x => .str x
  | _, _, .tup h r => .tup (by rw [hk]; exact h) (Rps.cg hk hc hf r)
  | _, _, .lst h r => .lst h (Rps.cg hk hc hf r)
  | _, _, .scr h r => .scr (by rw [hk]; exact h) (Rps.cg hk hc hf r)
  | _, _, .ins h r => .ins (by rw [hc]; exact h) (Rpf.cg hk hc hf r)
  | _, _, .fnp => hf ▸ .fnp
  | _, _, .exi h k r => .exi (by rw [hc]; exact h) k (Rp.cg hk hc hf r)
  | _, _, .dcv h k r => .dcv h k (Rps.cg hk hc hf r)
theorem Rps.cg {C D : Fx} {F : Hp} (hk : D.K = C.K) (hc : D.cl = C.cl) (hf : D.fa = C.fa := by rfl) : ∀ {v : List V} {p : List PV}, Rps C F v p → Rps D F v p
  | _, _, .nil => .nil
  | _, _, .cons h r => .cons (Rp.cg hk hc hf h) (Rps.cg hk hc hf r)
theorem Rpf.cg {C D : Fx} {F : Hp} (hk : D.K = C.K) (hc : D.cl = C.cl) (hf : D.fa = C.fa := by rfl) : ∀ {v : List (Str × V)} {p : List (Str × PV)}, Rpf C F v p → Rpf D F v p
  | _, _, .nil => .nil
  | _, _, .cons h r => .cons (Rp.cg hk hc hf h) (Rpf.cg hk hc hf r)
end
theorem Lls.cg {C D : Fx} {F H : Hp} (hk : D.K = C.K) (hc : D.cl = C.cl) (hf : D.fa = C.fa := by rfl) : ∀ {as : List Addr} {ls : List (List PV)}, Lls C F H as ls → Lls D F H as ls
  | [], [], _ => trivial
  | a :: as, l :: ls, ⟨⟨xs, h1, h2⟩, h⟩ => ⟨⟨xs, h1, h2.cg hk hc hf⟩, Lls.cg hk hc hf h⟩
  | [], _ :: _, h => h.elim
  | _ :: _, [], h => h.elim
theorem MAt.cg {C D : Fx} {F H : Hp} {p : Addr} {fp : List Addr} {m : MO} (hk : D.K = C.K) (hc : D.cl = C.cl) (h : MAt C F H p fp m) (hf : D.fa = C.fa := by rfl) : MAt D F H p fp m := by
  cases m with
  | lst l => obtain ⟨h1, xs, h2, h3⟩ := h; exact ⟨h1, xs, h2, h3.cg hk hc hf⟩
  | ins c l => obtain ⟨h1, dx, fs, h2, h3⟩ := h; exact ⟨h1, dx, fs, by rw [hc]; exact h2, h3.cg hk hc hf⟩
  | dct l => obtain ⟨h1, ks, h2, h3, h4⟩ := h; exact ⟨h1, ks, h2, h3, h4.cg hk hc hf⟩
  | lls l => obtain ⟨as, h1, h2, h3, h4, h5⟩ := h; exact ⟨as, h1, h2, h3, h4, h5.cg hk hc hf⟩
  | bag g l t b => exact h
def adr (σ : L2.St) (C : Fx) : MKey → Addr
  | .inl i => match σ[i]? with
    | some (some (.ref p)) => p
    | _ => 0
  | .inr k => C.be k
def fpr (A : Nat → List Addr) (C : Fx) : MKey → List Addr
  | .inl i => A i
  | .inr k => C.Bf k
def subC (σ : L2.St) (A : Nat → List Addr) (C : Fx) (ks : List MKey) : Fx := ⟨C.K, C.cl, ks.length, fun j => adr σ C (ks.getD j (.inl 0)), fun j => fpr A C (ks.getD j (.inl 0)), C.fa, C.F0⟩
theorem setAll_ro : ∀ (ks : List MKey) (ms : List MO) (s : Stt), ks.length = ms.length → ∀ (i : Nat) x, (setAll s ks ms).ro[i]? = some x → (∃ (j : Nat) (m : MO), ks[j]? = some (MKey.inl i) ∧ ms[j]? = some m ∧ x = some (SV.own m)) ∨ (s.ro[i]? = some x ∧ MKey.inl i ∉ ks)
  | [], [], s, _, i, x, h => .inr ⟨h, by simp⟩
  | [], _ :: _, s, hl, i, x, h => by simp at hl
  | _ :: _, [], s, hl, i, x, h => by simp at hl
  | k :: r, m :: ms, s, hl, i, x, h => by
    rcases setAll_ro r ms (setK s k m) (by simpa using hl) i x h with ⟨j, m', h1, h2, h3⟩ | ⟨h1, h2⟩
    · exact .inl ⟨j + 1, m', by simpa using h1, by simpa using h2, h3⟩
    · cases k with
      | inr k =>
        refine .inr ⟨h1, ?_⟩
        intro z
        rcases List.mem_cons.mp z with z | z
        · cases z
        · exact h2 z
      | inl i0 =>
        by_cases hi : i0 = i
        · subst hi
          refine .inl ⟨0, m, rfl, rfl, ?_⟩
          have h1 : (s.ro.set i0 (some (.own m)))[i0]? = some x := h1
          have hlt : i0 < s.ro.length := by
            have := (List.getElem?_eq_some_iff.mp h1).1
            rwa [List.length_set] at this
          rw [List.getElem?_set_self hlt] at h1
          cases h1; rfl
        · have h1 : (s.ro.set i0 (some (.own m)))[i]? = some x := h1
          rw [List.getElem?_set_ne hi] at h1
          refine .inr ⟨h1, fun z => ?_⟩
          rcases List.mem_cons.mp z with z | z
          · cases z; exact hi rfl
          · exact h2 z
theorem setAll_mu : ∀ (ks : List MKey) (ms : List MO) (s : Stt), ks.length = ms.length → ∀ (i : Nat) x, (setAll s ks ms).mu[i]? = some x → (∃ (j : Nat), ks[j]? = some (MKey.inr i) ∧ ms[j]? = some x) ∨ (s.mu[i]? = some x ∧ MKey.inr i ∉ ks)
  | [], [], s, _, i, x, h => .inr ⟨h, by simp⟩
  | [], _ :: _, s, hl, i, x, h => by simp at hl
  | _ :: _, [], s, hl, i, x, h => by simp at hl
  | k :: r, m :: ms, s, hl, i, x, h => by
    rcases setAll_mu r ms (setK s k m) (by simpa using hl) i x h with ⟨j, h1, h2⟩ | ⟨h1, h2⟩
    · exact .inl ⟨j + 1, by simpa using h1, by simpa using h2⟩
    · cases k with
      | inl k =>
        refine .inr ⟨h1, ?_⟩
        intro z
        rcases List.mem_cons.mp z with z | z
        · cases z
        · exact h2 z
      | inr i0 =>
        by_cases hi : i0 = i
        · subst hi
          have h1 : (s.mu.set i0 m)[i0]? = some x := h1
          have hlt : i0 < s.mu.length := by
            have := (List.getElem?_eq_some_iff.mp h1).1
            rwa [List.length_set] at this
          rw [List.getElem?_set_self hlt] at h1
          cases h1
          exact .inl ⟨0, rfl, rfl⟩
        · have h1 : (s.mu.set i0 m)[i]? = some x := h1
          rw [List.getElem?_set_ne hi] at h1
          refine .inr ⟨h1, fun z => ?_⟩
          rcases List.mem_cons.mp z with z | z
          · cases z; exact hi rfl
          · exact h2 z
theorem setAll_lens : ∀ (ks : List MKey) (ms : List MO) (s : Stt), (setAll s ks ms).ro.length = s.ro.length ∧ (setAll s ks ms).mu.length = s.mu.length
  | [], [], s => ⟨rfl, rfl⟩
  | [], _ :: _, s => ⟨rfl, rfl⟩
  | _ :: _, [], s => ⟨rfl, rfl⟩
  | k :: r, m :: ms, s => by
    obtain ⟨h1, h2⟩ := setAll_lens r ms (setK s k m)
    have e1 : (setK s k m).ro.length = s.ro.length := by cases k <;> simp [setK]
    have e2 : (setK s k m).mu.length = s.mu.length := by cases k <;> simp [setK]
    exact ⟨h1.trans e1, h2.trans e2⟩
theorem getAll_at : ∀ {ks : List MKey} {ms : List MO} {s : Stt}, getAll s ks = some ms → ks.length = ms.length ∧ ∀ (j : Nat) (k : MKey), ks[j]? = some k → ∃ m, ms[j]? = some m ∧ getK s k = some m
  | [], ms, s, h => by
    cases h
    exact ⟨rfl, fun j k e => by simp at e⟩
  | k :: r, ms, s, h => by
    unfold getAll at h
    split at h
    · rename_i m ms' e1 e2
      cases h
      obtain ⟨h1, h2⟩ := getAll_at e2
      refine ⟨by simp [h1], fun j k' e => ?_⟩
      cases j with
      | zero => simp at e; subst e; exact ⟨m, rfl, e1⟩
      | succ j => exact h2 j k' (by simpa using e)
    · cases h
theorem distinct_ne : ∀ {ks : List MKey}, distinct ks = true → ∀ (i j : Nat) (k : MKey), ks[i]? = some k → ks[j]? = some k → i = j
  | [], _, i, j, k, h, _ => by simp at h
  | k0 :: r, hd, i, j, k, h1, h2 => by
    unfold distinct at hd
    rw [Bool.and_eq_true] at hd
    have nk : k0 ∉ r := of_decide_eq_true hd.1
    cases i with
    | zero =>
      cases j with
      | zero => rfl
      | succ j =>
        simp at h1 h2
        subst h1
        exact absurd (List.mem_of_getElem? h2) nk
    | succ i =>
      cases j with
      | zero =>
        simp at h1 h2
        subst h2
        exact absurd (List.mem_of_getElem? h1) nk
      | succ j => rw [distinct_ne hd.2 i j k (by simpa using h1) (by simpa using h2)]
section
variable {C : Fx} {F H : Hp} {A : Nat → List Addr} {σ : L2.St} {s : Stt}
/-- a valid key's object -/
theorem key_at (o : OkF C F A H σ s) {k : MKey} {m : MO} (h : getK s k = some m) : MAt C F H (adr σ C k) (fpr A C k) m ∧ (∀ b, b ∈ fpr A C k → F b = none ∧ H b ≠ none) ∧ (∀ i, k = .inl i → σ[i]? = some (some (.ref (adr σ C k)))) ∧ (∀ q, k = .inr q → q < C.nb) := by
  cases k with
  | inl i =>
    unfold getK at h
    simp only at h
    split at h
    · rename_i m' e
      cases h
      obtain ⟨p, h1, h2⟩ := o.own i m e
      have ea : adr σ C (.inl i) = p := by
        show (match σ[i]? with | some (some (.ref p)) => p | _ => 0) = p
        rw [h1]
      rw [ea]
      exact ⟨h2, fun b hb => o.free i b hb, fun j e => by cases e; exact h1, fun q e => by cases e⟩
    · cases h
  | inr k =>
    have h1 := o.bor k m h
    have hk : k < C.nb := by rw [← o.nb]; exact (List.getElem?_eq_some_iff.mp h).1
    refine ⟨h1, fun b hb => ⟨(o.freeB k b hk hb).1, h1.there b hb⟩, fun j e => ?_, fun q e => ?_⟩
    · cases e
    · cases e; exact hk
theorem key_dis (o : OkF C F A H σ s) {k k' : MKey} (h : ∀ q, k = .inr q → q < C.nb) (h' : ∀ q, k' = .inr q → q < C.nb) {b : Addr} (hb : b ∈ fpr A C k) (hb' : b ∈ fpr A C k') : k = k' := by
  cases k with
  | inl i =>
    cases k' with
    | inl j => rw [o.dis i j b hb hb']
    | inr q => exact absurd hb ((o.freeB q b (h' q rfl) hb').2 i)
  | inr q =>
    cases k' with
    | inl j => exact absurd hb' ((o.freeB q b (h q rfl) hb).2 j)
    | inr q' => rw [o.disB q q' b (h q rfl) (h' q' rfl) hb hb']
theorem lower_ext : ∀ {avs : List AV} {ks ks' : List MKey} {ps : List SV}, lowerA s avs ks = some (ps, ks') → ∃ r, ks' = ks ++ r
  | [], ks, ks', ps, h => by cases h; exact ⟨[], by simp⟩
  | .pv p :: r, ks, ks', ps, h => by
    unfold lowerA at h
    split at h
    · rename_i ps' ks'' e
      cases h
      exact lower_ext e
    · cases h
  | .sl i :: r, ks, ks', ps, h => by
    unfold lowerA at h
    split at h
    · cases h
    · rename_i k e
      split at h
      · rename_i ps' ks'' e2
        cases h
        obtain ⟨x, e3⟩ := lower_ext e2
        exact ⟨k :: x, by rw [e3, List.append_assoc]; rfl⟩
      · cases h
theorem lower_rp (o : OkF C F A H σ s) {D : Fx} (hk : D.K = C.K) (hc : D.cl = C.cl) (hfa : D.fa = C.fa) (ks0 : List MKey) (hn : D.nb = ks0.length) (hb : ∀ (j : Nat) (k : MKey), ks0[j]? = some k → D.be j = adr σ C k) :
    ∀ {avs : List AV} {vs : List V} {ks ks' : List MKey} {ps : List SV}, lowerA s avs ks = some (ps, ks') → (∃ r, ks0 = ks' ++ r) → RAs C σ F vs avs → RpA D F vs ps
  | [], vs, ks, ks', ps, h, _, r => by cases h; cases r; exact .nil
  | .pv p :: r, vs, ks, ks', ps, h, he, ra => by
    unfold lowerA at h
    split at h
    · rename_i ps' ks'' e
      cases h
      cases ra with
      | pv r1 r2 => exact .val (r1.cg hk hc hfa) (lower_rp o hk hc hfa ks0 hn hb e he r2)
    · cases h
  | .sl i :: r, vs, ks, ks', ps, h, he, ra => by
    unfold lowerA at h
    split at h
    · cases h
    · rename_i k ek
      split at h
      · rename_i ps' ks'' e2
        cases h
        cases ra with
        | @sl v _ vs' _ r1 r2 =>
          obtain ⟨x, e3⟩ := lower_ext e2
          obtain ⟨y, e4⟩ := he
          have ej : ks0[ks.length]? = some k := by
            rw [e4, e3]
            simp
          have hlt : ks.length < D.nb := by rw [hn]; exact (List.getElem?_eq_some_iff.mp ej).1
          have ev : v = .ref (D.be ks.length) := by
            rw [hb _ _ ej]
            unfold keyOf at ek
            split at ek
            · rename_i m e
              cases ek
              obtain ⟨p, h1, _⟩ := o.own i m e
              rw [h1] at r1
              cases r1
              show V.ref p = V.ref (match σ[i]? with | some (some (.ref p)) => p | _ => 0)
              rw [h1]
            · rename_i q e
              cases ek
              have := (o.lent i q e).1
              rw [this] at r1
              cases r1
              rfl
            · cases ek
          rw [ev]
          exact .bor hlt (lower_rp o hk hc hfa ks0 hn hb e2 ⟨y, e4⟩ r2)
      · cases h
/-- THE CALL -/
theorem call_core (o : OkF C F A H σ s) {avs : List AV} {vs : List V} {ps : List SV} {ks : List MKey} {ms : List MO} (hl : lowerA s avs [] = some (ps, ks)) (hd : distinct ks = true) (hg : getAll s ks = some ms) (r : RAs C σ F vs avs) :
    OkF (subC σ A C ks) F noA H [] ⟨[], ms⟩ ∧ RpA (subC σ A C ks) F vs ps ∧
      ∀ F' H' ms', OkF (subC σ A C ks) F' noA H' [] ⟨[], ms'⟩ → Step (subC σ A C ks) F noA H F' noA H' →
        OkF C F' A H' σ (setAll s ks ms') ∧ Step C F A H F' A H' ∧ ∀ p m, Fresh (subC σ A C ks) F noA H F' noA H' p m → Fresh C F A H F' A H' p m := by
  obtain ⟨lms, hms⟩ := getAll_at hg
  have kg : ∀ (j : Nat) (k : MKey), ks[j]? = some k → ks.getD j (.inl 0) = k := fun j k e => by rw [List.getD_eq_getElem?_getD, e]; rfl
  have kv : ∀ (j : Nat), j < ks.length → ∃ (k : MKey) (m : MO), ks[j]? = some k ∧ ms[j]? = some m ∧ getK s k = some m := fun j hj => by
    obtain ⟨m, h1, h2⟩ := hms j ks[j] (List.getElem?_eq_getElem hj)
    exact ⟨ks[j], m, List.getElem?_eq_getElem hj, h1, h2⟩
  have nofr : ∀ {X : Addr}, ¬ OwnA noA X := fun {X} ⟨i, h⟩ => absurd h (by simp [noA])
  refine ⟨⟨rfl, o.sub, fun i v e => by simp at e, fun i m e => by simp at e, lms.symm, fun i k e => by simp at e, fun j m e => ?_, fun _ _ h => absurd h (by simp [noA]), fun _ _ _ h _ => absurd h (by simp [noA]), fun j b hj hb => ?_, fun i j b hi hj hb hb' => ?_, o.ext⟩,
    lower_rp (D := subC σ A C ks) o rfl rfl rfl ks rfl (fun j k e => by show adr σ C (ks.getD j (.inl 0)) = _; rw [kg j k e]) hl ⟨[], by simp⟩ r, fun F' H' ms' o' st => ?_⟩
  · have hj : j < ks.length := by rw [lms]; exact (List.getElem?_eq_some_iff.mp e).1
    obtain ⟨k, m', h1, h2, h3⟩ := kv j hj
    have e' : ms[j]? = some m := e
    rw [h2] at e'; cases e'
    show MAt (subC σ A C ks) F H (adr σ C (ks.getD j _)) (fpr A C (ks.getD j _)) m
    rw [kg j k h1]
    exact (key_at o h3).1.cg (by rfl) (by rfl)
  · obtain ⟨k, m', h1, h2, h3⟩ := kv j hj
    have hb' : b ∈ fpr A C (ks.getD j (.inl 0)) := hb
    rw [kg j k h1] at hb'
    exact ⟨((key_at o h3).2.1 b hb').1, fun _ h => absurd h (by simp [noA])⟩
  · obtain ⟨k, m', h1, h2, h3⟩ := kv i hi
    obtain ⟨k', m'', h1', h2', h3'⟩ := kv j hj
    have hb1 : b ∈ fpr A C (ks.getD i (.inl 0)) := hb
    have hb2 : b ∈ fpr A C (ks.getD j (.inl 0)) := hb'
    rw [kg i k h1] at hb1
    rw [kg j k' h1'] at hb2
    have ek := key_dis o (key_at o h3).2.2.2 (key_at o h3').2.2.2 hb1 hb2
    exact distinct_ne hd i j k h1 (by rw [ek]; exact h1')
  · -- behind the call
    have lms' : ks.length = ms'.length := o'.nb.symm
    have bor_in : ∀ b, Bor (subC σ A C ks) b → OwnA A b ∨ Bor C b := fun b ⟨j, hj, hb⟩ => by
      obtain ⟨k, m', h1, h2, h3⟩ := kv j hj
      have hb' : b ∈ fpr A C (ks.getD j (.inl 0)) := hb
      rw [kg j k h1] at hb'
      cases k with
      | inl i => exact .inl ⟨i, hb'⟩
      | inr q => exact .inr ⟨q, (key_at o h3).2.2.2 q rfl, hb'⟩
    have stay : ∀ k, (∀ q, k = MKey.inr q → q < C.nb) → k ∉ ks → ∀ b x, b ∈ fpr A C k → ¬ Tbx x → H b = some x → H' b = some x := fun k hk nk b x hb nt hx => by
      refine st.s4 b x hx (Tbx.tbl nt) nofr ?_
      rintro ⟨j, hj, hb2⟩
      obtain ⟨k', m', h1, h2, h3⟩ := kv j hj
      have hb' : b ∈ fpr A C (ks.getD j (.inl 0)) := hb2
      rw [kg j k' h1] at hb'
      have := key_dis o hk (key_at o h3).2.2.2 hb hb'
      rw [this] at nk
      exact nk (List.mem_of_getElem? h1)
    have keepN : ∀ b, F b = none → H b ≠ none → F' b = none := fun b h1 h2 => by
      cases e : F' b with
      | none => rfl
      | some x =>
        rcases st.s2 b (by rw [e]; simp) with z | z | z
        · exact absurd h1 z
        · exact absurd z h2
        · exact absurd z nofr
    have borKey : ∀ (q : Nat) (m : MO), s.mu[q]? = some m → getK s (.inr q) = some m := fun q m e => e
    refine ⟨⟨?_, o'.sub, fun i v e => ?_, fun i m e => ?_, ?_, fun i k e => ?_, fun k m e => ?_, fun i b hb => ?_, o.dis, fun k b hk hb => ?_, o.disB, ⟨o.ext.1.trans st.s1, o'.ext.2⟩⟩, ⟨st.s1, fun b hb => ?_, fun b hb => .inl hb, fun b x hx nt n1 n2 => ?_, st.s5⟩, fun p m f => ?_⟩
    · rw [(setAll_lens ks ms' s).1]; exact o.len
    · rcases setAll_ro ks ms' s lms' i _ e with ⟨j, m, h1, h2, h3⟩ | ⟨h1, h2⟩
      · cases h3
      · obtain ⟨u, h3, h4⟩ := o.val i v h1
        exact ⟨u, h3, h4.mono st.s1⟩
    · rcases setAll_ro ks ms' s lms' i _ e with ⟨j, m', h1, h2, h3⟩ | ⟨h1, h2⟩
      · cases h3
        have hj : j < ks.length := (List.getElem?_eq_some_iff.mp h1).1
        obtain ⟨k, m0, g1, g2, g3⟩ := kv j hj
        rw [h1] at g1; cases g1
        refine ⟨_, (key_at o g3).2.2.1 i rfl, ?_⟩
        have z : MAt (subC σ A C ks) F' H' (adr σ C (ks.getD j (.inl 0))) (fpr A C (ks.getD j (.inl 0))) m := o'.bor j m h2
        rw [kg j _ h1] at z
        exact z.cg (by rfl) (by rfl)
      · obtain ⟨p, h3, h4⟩ := o.own i m h1
        exact ⟨p, h3, h4.keepT st.s1 (stay (.inl i) (fun q z => by cases z) h2)⟩
    · rw [(setAll_lens ks ms' s).2]; exact o.nb
    · rcases setAll_ro ks ms' s lms' i _ e with ⟨j, m', h1, h2, h3⟩ | ⟨h1, h2⟩
      · cases h3
      · exact o.lent i k h1
    · rcases setAll_mu ks ms' s lms' k _ e with ⟨j, h1, h2⟩ | ⟨h1, h2⟩
      · have z : MAt (subC σ A C ks) F' H' (adr σ C (ks.getD j (.inl 0))) (fpr A C (ks.getD j (.inl 0))) m := o'.bor j m h2
        rw [kg j _ h1] at z
        exact z.cg (by rfl) (by rfl)
      · have hk : k < C.nb := by rw [← o.nb]; exact (List.getElem?_eq_some_iff.mp h1).1
        exact (o.bor k m h1).keepT st.s1 (stay (.inr k) (fun q z => by cases z; exact hk) h2)
    · obtain ⟨h1, h2⟩ := o.free i b hb
      exact ⟨keepN b h1 h2, st.s5 b h2⟩
    · have hm : k < s.mu.length := by rw [o.nb]; exact hk
      have ht := (o.bor k s.mu[k] (List.getElem?_eq_getElem hm)).there b hb
      exact ⟨keepN b (o.freeB k b hk hb).1 ht, (o.freeB k b hk hb).2⟩
    · rcases st.s2 b hb with z | z | z
      · exact .inl z
      · exact .inr (.inl z)
      · exact absurd z nofr
    · refine st.s4 b x hx nt nofr fun z => ?_
      rcases bor_in b z with q | q
      · exact n1 q
      · exact n2 q
    · obtain ⟨fp, h1, h2⟩ := f
      refine ⟨fp, h1.cg (by rfl) (by rfl), fun b hb => ?_⟩
      obtain ⟨k1, k2, k3, k4⟩ := h2 b hb
      have hn : H b = none := by
        rcases k4 with z | z
        · exact z
        · exact absurd z nofr
      refine ⟨k1, fun ⟨i, z⟩ => (o.free i b z).2 hn, fun ⟨q, hq, z⟩ => ?_, .inl hn⟩
      have hm : q < s.mu.length := by rw [o.nb]; exact hq
      exact (o.bor q s.mu[q] (List.getElem?_eq_getElem hm)).there b z hn
end
section
variable {X : Cx} {C : Fx} {W : WX} {e a tg : Expr} {es : List Expr} {pos : Pos} {fe : Stt → Res PV} {fo : Stt → Res MO} {fa : Stt → Res (List AV)}
theorem dl_nil : DL X C W [] lNil := ⟨_, pa_nil, fun F A H σ s Q o p => Post.now o p .nil⟩
theorem dl_pv (ha : DV X C W a fe) (hs : DL X C W es fa) (he : starEach (a :: es) X.env = (false, eval a X.env) :: starEach es X.env := by rfl) : DL X C W (a :: es) (lPv fe fa) := by
  obtain ⟨ta, pa, qa⟩ := ha.pr
  obtain ⟨tb, pb, qb⟩ := hs.pr
  refine ⟨_, pa_cons pa pb he, fun F A H σ s Q o p => ?_⟩
  refine qa F A H σ s _ o (p.seq fun q1 s1 v1 F1 A1 H1 _ o1 st1 r1 p1 => ?_)
  refine qb F1 A1 H1 σ s1 _ o1 (p1.seq fun q2 s2 v2 F2 A2 H2 _ o2 st2 r2 p2 => ?_)
  exact Post.now o2 p2 (.pv (r1.mono st2.s1) r2)
theorem dl_sl (i : Nat) {x : Str} {p : Pos} (hs : DL X C W es fa) (hN : X.N[i]? = some x := by rfl) (hv : Vis X.env.scope x := by first | exact Or.inl rfl | exact Or.inr (Or.inl rfl) | exact Or.inr (Or.inr rfl)) (hd : (x == ("__debug__" : Str)) = false := by decide)
    (hcd : (x == ("__classdict__" : Str)) = false := by decide) (he : starEach (.Name x p :: es) X.env = (false, eval (.Name x p) X.env) :: starEach es X.env := by rfl) : DL X C W (.Name x p :: es) (lSl i fa) := by
  obtain ⟨tb, pb, qb⟩ := hs.pr
  refine ⟨_, pa_cons (pe_var hN hv hd hcd) pb he, fun F A H σ s Q o p => ?_⟩
  have go : ∀ v, σ[i]? = some (some v) → Post C W (fun F _ vs ps => RAs C σ F vs ps) F A H σ ((fa s).bind fun q s2 => .ok (AV.sl i :: q) s2) Q → tCons (tVar i) tb σ H Q := fun v hv p => by
    refine ⟨v, hv, ?_⟩
    refine qb F A H σ s _ o (p.seq fun q2 s2 v2 F2 A2 H2 _ o2 st2 r2 p2 => ?_)
    exact Post.now o2 p2 (.sl hv r2)
  unfold lSl at p
  split at p
  · rename_i m e
    obtain ⟨q, h1, _⟩ := o.own i m e
    exact go _ h1 p
  · rename_i k e
    exact go _ (o.lent i k e).1 p
  · exact p.elim
/-- the callee's promise from the caller's wish -/
theorem call_post {n : Nat} {m : List SV → List MO → FRes} {F H : Hp} {A : Nat → List Addr} {σ : L2.St} {s : Stt} {avs : List AV} {vs : List V} {Q : VK} (hK : X.K = C.K) (hlen : avs.length = n) (o : OkF C F A H σ s) (r : RAs C σ F vs avs)
    (p : Post C W (RV C) F A H σ (match lowerA s avs [] with
  | none => Res.stuck
  | some (ps, ks) => if distinct ks = true then match getAll s ks with
    | none => Res.stuck
    | some ms => match m ps ms with
      | .ok v ms' => Res.ok v (setAll s ks ms')
      | .own (.lst l) ms' => Res.ok (.lst l) (setAll s ks ms')
      | .own _ _ => Res.stuck
      | .ex c v ms' => Res.ex c v (setAll s ks ms')
      | .stuck => Res.stuck
    else Res.stuck) Q) : spOf X.K C.cl n m vs H Q (fun c d H => W c d σ H) := by
  have hl : vs.length = avs.length := by
    clear p hlen
    induction r with
    | nil => rfl
    | pv _ _ ih => simpa using ih
    | sl _ _ ih => simpa using ih
  cases e1 : lowerA s avs [] with
  | none => rw [e1] at p; exact p.elim
  | some pk =>
    obtain ⟨ps, ks⟩ := pk
    rw [e1] at p
    simp only at p
    split at p
    · rename_i hd
      cases e2 : getAll s ks with
      | none => rw [e2] at p; exact p.elim
      | some ms =>
        rw [e2] at p
        simp only at p
        obtain ⟨c1, c2, c3⟩ := call_core o e1 hd e2 r
        refine ⟨hl.trans hlen, subC σ A C ks, F, ps, ms, hK.symm, rfl, c1, c2, ?_⟩
        cases e3 : m ps ms with
        | ok v ms' =>
          rw [e3] at p
          intro u F' H' o' st' r'
          obtain ⟨o2, st2, _⟩ := c3 F' H' ms' o' st'
          exact p u F' A H' o2 st2 (r'.cg (by rfl) (by rfl))
        | own mo ms' =>
          rw [e3] at p
          cases mo with
          | lst l =>
            intro q F' H' o' st' f'
            obtain ⟨o2, st2, f2⟩ := c3 F' H' ms' o' st'
            obtain ⟨F2, o3, st3, r3⟩ := o2.freeze st2 (f2 q _ f')
            exact p _ F2 A H' o3 st3 r3
          | _ => exact p.elim
        | ex c v ms' =>
          rw [e3] at p
          intro d F' H' o' st' x'
          obtain ⟨o2, st2, _⟩ := c3 F' H' ms' o' st'
          obtain ⟨u, h1, h2⟩ := x'
          exact p d F' A H' o2 st2 ⟨u, h1, h2.cg (by rfl) (by rfl)⟩
        | stuck => rw [e3] at p; exact p.elim
    · exact p.elim
end
end PL
/-! PL6: tests, choices, calls, comprehensions. -/
namespace PL
open PySem PySem.Spec PyProof.Rows L2
/-! ### tests -/
def tOf (f : Stt → Res PV) : Stt → Res Bool := fun s => (f s).bind fun p s1 => match p with
  | .bl b => .ok b s1
  | _ => .stuck
def pTru : PV → Option Bool
  | .non => some false
  | .bl b => some b
  | .int i => some (i != 0)
  | .str y => if y.length ≤ 16777216 then some ((y.length : Int) != 0) else none
  | .tup l => some (!l.isEmpty)
  | .lst l => some (!l.isEmpty)
  | .scr l => some (!l.isEmpty)
  | .ins _ _ => none
  | .fnp => none
  | .exi _ _ => none
  | .dcv _ _ => none
def tTru (f : Stt → Res PV) : Stt → Res Bool := fun s => (f s).bind fun p s1 => Res.opt s1 (pTru p)
def tNt (f : Stt → Res Bool) : Stt → Res Bool := fun s => (f s).bind fun p s1 => .ok (!p) s1
def tAn (f g : Stt → Res Bool) : Stt → Res Bool := fun s => (f s).bind fun p s1 => if p = true then g s1 else .ok false s1
def tOrr (f g : Stt → Res Bool) : Stt → Res Bool := fun s => (f s).bind fun p s1 => if p = true then .ok true s1 else g s1
def eIf (t : Stt → Res Bool) (f g : Stt → Res PV) : Stt → Res PV := fun s => (t s).bind fun p s1 => if p = true then f s1 else g s1
def eAn (f g : Stt → Res PV) : Stt → Res PV := fun s => (f s).bind fun p s1 => match pTru p with
  | some true => g s1
  | some false => .ok p s1
  | none => .stuck
def eOr (f g : Stt → Res PV) : Stt → Res PV := fun s => (f s).bind fun p s1 => match pTru p with
  | some true => .ok p s1
  | some false => g s1
  | none => .stuck
def eNt (f : Stt → Res PV) : Stt → Res PV := fun s => (f s).bind fun p s1 => match pTru p with
  | some b => .ok (.bl !b) s1
  | none => .stuck
def eChain (op op' : PV → PV → Option PV) (fa fb fc : Stt → Res PV) : Stt → Res PV := fun s => (fa s).bind fun p s1 => (fb s1).bind fun q s2 => match op p q with
  | some (.bl true) => (fc s2).bind fun r s3 => Res.opt s3 (op' q r)
  | some (.bl false) => .ok (.bl false) s2
  | _ => .stuck
theorem tru_of {C : Fx} {F H : Hp} {K : PySem.W.Frag} {v : V} {p : PV} {b : Bool} (hK : K = C.K) (sm : Same F H) (r : Rp C F v p) (h : pTru p = some b) : TruV K v H b := by
  subst hK
  cases r with
  | non => cases h; rfl
  | bl b => cases h; rfl
  | int i => cases h; rfl
  | str y =>
    have h : (if y.length ≤ 16777216 then some ((y.length : Int) != 0) else none) = some b := h
    split at h
    · rename_i hl; cases h; exact ⟨by rw [sizeLine_eq]; exact hl, rfl⟩
    · cases h
  | @tup a xs l h1 h2 =>
    cases h
    refine .inr (.inl ⟨xs, sqT_mono sm h1, ?_⟩)
    cases h2 <;> rfl
  | @lst a xs l h1 h2 =>
    cases h
    refine .inl ⟨xs, .inl (.inl (sm _ _ h1)), ?_⟩
    cases h2 <;> rfl
  | @scr a xs l h1 h2 =>
    cases h
    refine .inl ⟨xs, sm.seq h1, ?_⟩
    cases h2 <;> rfl
  | ins _ _ => cases h
  | fnp => cases h
  | exi _ _ _ => cases h
  | dcv _ _ _ => cases h
section
variable {X : Cx} {C : Fx} {W : WX} {a b c e tg : Expr} {es : List Expr} {pos : Pos} {fa fb fc fe : Stt → Res PV} {ta tb : Stt → Res Bool}
/-- a bool's value, as a test -/
theorem tOf_post {t : TE} {f : Stt → Res PV} (h : ∀ F A H σ s Q, OkF C F A H σ s → Post C W (RV C) F A H σ (f s) Q → t σ H Q) :
    ∀ F A H σ s Q, OkF C F A H σ s → Post C W RB F A H σ (tOf f s) Q → tTest t σ H Q := by
  intro F A H σ s Q o p
  refine h F A H σ s _ o (p.seq fun q s1 v F1 A1 H1 _ o1 st1 r1 p1 => ?_)
  cases r1 with
  | bl k => exact ⟨k, rfl, Post.now o1 p1 rfl⟩
  | _ => exact p1.elim
theorem dt_cmp {op : CmpOp} {r : R2} {f : PV → PV → Option PV} (ho : OpR X (compareOp op) r) (h : OpD C r f) (ha : DV X C W a fa) (hb : DV X C W b fb) (hm : behindInMarks op b = false) : DT X C W (.Compare a [op] [b] pos) (tOf (eBin f fa fb)) := by
  obtain ⟨t1, pa, qa⟩ := ha.pr
  obtain ⟨t2, pb, qb⟩ := hb.pr
  exact ⟨_, pt_cmpR ho pa pb hm, tOf_post (opPost h qa qb)⟩
theorem chain_post {r r' : R2} {f f' : PV → PV → Option PV} {t1 t2 t3 : TE} (h : OpD C r f) (h' : OpD C r' f') (qa : ∀ F A H σ s Q, OkF C F A H σ s → Post C W (RV C) F A H σ (fa s) Q → t1 σ H Q) (qb : ∀ F A H σ s Q, OkF C F A H σ s → Post C W (RV C) F A H σ (fb s) Q → t2 σ H Q) (qc : ∀ F A H σ s Q, OkF C F A H σ s → Post C W (RV C) F A H σ (fc s) Q → t3 σ H Q) :
    ∀ F A H σ s Q, OkF C F A H σ s → Post C W (RV C) F A H σ (eChain f f' fa fb fc s) Q → tChain r r' t1 t2 t3 σ H Q := by
  intro F A H σ s Q o p
  refine qa F A H σ s _ o (p.seq fun q1 s1 v1 F1 A1 H1 _ o1 st1 r1 p1 => ?_)
  refine qb F1 A1 H1 σ s1 _ o1 (p1.seq fun q2 s2 v2 F2 A2 H2 _ o2 st2 r2 p2 => ?_)
  cases e : f q1 q2 with
  | none => rw [e] at p2; exact p2.elim
  | some z =>
    rw [e] at p2
    cases z with
    | bl k =>
      refine h F2 A2 H2 σ s2 v1 v2 q1 q2 _ _ o2 (r1.mono st2.s1) r2 e fun v3 F3 A3 H3 o3 st3 r3 => ?_
      cases r3
      refine ⟨k, rfl, ?_⟩
      cases k with
      | false =>
        refine iteF ?_
        exact p2 _ F3 A3 H3 o3 st3 (.bl false)
      | true =>
        refine iteT ?_
        refine qc F3 A3 H3 σ s2 _ o3 ((p2.after st3).seq fun q4 s4 v4 F4 A4 H4 _ o4 st4 r4 p4 => ?_)
        obtain ⟨z, e4, k4⟩ := Post.opt p4
        exact h' F4 A4 H4 σ s4 v2 v4 q2 q4 z Q o4 (r2.mono (st3.s1.trans st4.s1)) r4 e4 k4
    | _ => exact p2.elim
theorem dv_chain {op op' : CmpOp} {r r' : R2} {f f' : PV → PV → Option PV} (ho : OpR X (compareOp op) r) (ho' : OpR X (compareOp op') r') (h : OpD C r f) (h' : OpD C r' f') (ha : DV X C W a fa) (hb : DV X C W b fb) (hc : DV X C W c fc)
    (hm : lastMarks [op, op'] [b, c] = false := by with_unfolding_all rfl) : DV X C W (.Compare a [op, op'] [b, c] pos) (eChain f f' fa fb fc) := by
  obtain ⟨t1, pa, qa⟩ := ha.pr
  obtain ⟨t2, pb, qb⟩ := hb.pr
  obtain ⟨t3, pc, qc⟩ := hc.pr
  exact ⟨_, pe_chain ho ho' pa pb pc hm, chain_post h h' qa qb qc⟩
theorem dt_chain {op op' : CmpOp} {r r' : R2} {f f' : PV → PV → Option PV} (ho : OpR X (compareOp op) r) (ho' : OpR X (compareOp op') r') (h : OpD C r f) (h' : OpD C r' f') (ha : DV X C W a fa) (hb : DV X C W b fb) (hc : DV X C W c fc)
    (hm : lastMarks [op, op'] [b, c] = false := by with_unfolding_all rfl) : DT X C W (.Compare a [op, op'] [b, c] pos) (tOf (eChain f f' fa fb fc)) := by
  obtain ⟨t1, pa, qa⟩ := ha.pr
  obtain ⟨t2, pb, qb⟩ := hb.pr
  obtain ⟨t3, pc, qc⟩ := hc.pr
  exact ⟨_, pt_chain ho ho' pa pb pc hm, tOf_post (chain_post h h' qa qb qc)⟩
theorem dt_tru (hK : X.K = C.K) (ha : DV X C W a fa) (he : ∀ whole, isTrue a X.env whole = (do let v ← whole; standAt a.pos; holding [v] (truthy v)) := by intro _; rfl) : DT X C W a (tTru fa) := by
  obtain ⟨t1, pa, qa⟩ := ha.pr
  refine ⟨_, pt_truth pa he, fun F A H σ s Q o p => ?_⟩
  refine qa F A H σ s _ o (p.seq fun q s1 v F1 A1 H1 _ o1 st1 r1 p1 => ?_)
  obtain ⟨z, e, k⟩ := Post.opt p1
  exact ⟨z, tru_of hK o1.sub r1 e, k z F1 A1 H1 o1 .refl rfl⟩
theorem dt_not (ha : DT X C W a ta) : DT X C W (.UnaryOp .Not a pos) (tNt ta) := by
  obtain ⟨t1, pa, qa⟩ := ha.pr
  refine ⟨_, pt_not pa, fun F A H σ s Q o p => ?_⟩
  refine qa F A H σ s _ o (p.seq fun q s1 v F1 A1 H1 _ o1 st1 r1 p1 => ?_)
  obtain rfl : v = q := r1
  exact Post.now o1 p1 rfl
structure DW (X : Cx) (C : Fx) (W : WX) (e : Expr) (f : Stt → Res Bool) : Prop where
  pr : ∃ te, PW X e te ∧ ∀ F A H σ s Q, OkF C F A H σ s → Post C W RB F A H σ (f s) Q → te σ H Q
theorem dw_or1 (ha : DT X C W a ta) : DW X C W (.BoolOp .Or [a] pos) ta := let ⟨t, p, q⟩ := ha.pr; ⟨t, pw_or1 p, q⟩
theorem dw_or (ha : DT X C W a ta) (hb : DW X C W (.BoolOp .Or (b :: es) pos) tb) : DW X C W (.BoolOp .Or (a :: b :: es) pos) (tOrr ta tb) := by
  obtain ⟨t1, pa, qa⟩ := ha.pr
  obtain ⟨t2, pb, qb⟩ := hb.pr
  refine ⟨_, pw_or pa pb, fun F A H σ s Q o p => ?_⟩
  refine qa F A H σ s _ o (p.seq fun q s1 v F1 A1 H1 _ o1 st1 r1 p1 => ?_)
  obtain rfl : v = q := r1
  cases v with
  | true => exact iteT (Post.now (a := true) o1 (by simpa using p1) rfl)
  | false => exact iteF (qb F1 A1 H1 σ s1 Q o1 (by simpa using p1))
theorem dt_of (h : DW X C W a ta) : DT X C W a ta := let ⟨t, p, q⟩ := h.pr; ⟨t, p.pt, q⟩
/-! ### values by truth -/
theorem dv_one {op} (h : DV X C W a fa) : DV X C W (.BoolOp op [a] pos) fa := let ⟨t, p, q⟩ := h.pr; ⟨t, pe_one p, q⟩
theorem dv_and (hK : X.K = C.K) (ha : DV X C W a fa) (hb : DV X C W (.BoolOp .And (b :: es) pos) fb) : DV X C W (.BoolOp .And (a :: b :: es) pos) (eAn fa fb) := by
  obtain ⟨t1, pa, qa⟩ := ha.pr
  obtain ⟨t2, pb, qb⟩ := hb.pr
  refine ⟨_, pe_andT pa pb, fun F A H σ s Q o p => ?_⟩
  refine qa F A H σ s _ o (p.seq fun q s1 v F1 A1 H1 _ o1 st1 r1 p1 => ?_)
  cases e : pTru q with
  | none => rw [e] at p1; exact p1.elim
  | some k =>
    rw [e] at p1
    refine ⟨k, tru_of hK o1.sub r1 e, ?_⟩
    cases k with
    | true => exact iteT (qb F1 A1 H1 σ s1 Q o1 p1)
    | false => exact iteF (Post.now o1 p1 r1)
theorem dv_or (hK : X.K = C.K) (ha : DV X C W a fa) (hb : DV X C W (.BoolOp .Or (b :: es) pos) fb) : DV X C W (.BoolOp .Or (a :: b :: es) pos) (eOr fa fb) := by
  obtain ⟨t1, pa, qa⟩ := ha.pr
  obtain ⟨t2, pb, qb⟩ := hb.pr
  refine ⟨_, pe_orT pa pb, fun F A H σ s Q o p => ?_⟩
  refine qa F A H σ s _ o (p.seq fun q s1 v F1 A1 H1 _ o1 st1 r1 p1 => ?_)
  cases e : pTru q with
  | none => rw [e] at p1; exact p1.elim
  | some k =>
    rw [e] at p1
    refine ⟨k, tru_of hK o1.sub r1 e, ?_⟩
    cases k with
    | true => exact iteT (Post.now o1 p1 r1)
    | false => exact iteF (qb F1 A1 H1 σ s1 Q o1 p1)
theorem dv_if (hc : DT X C W c ta) (ha : DV X C W a fa) (hb : DV X C W b fb) : DV X C W (.IfExp c a b pos) (eIf ta fa fb) := by
  obtain ⟨t0, pc, qc⟩ := hc.pr
  obtain ⟨t1, pa, qa⟩ := ha.pr
  obtain ⟨t2, pb, qb⟩ := hb.pr
  refine ⟨_, pe_ifExp pc pa pb, fun F A H σ s Q o p => ?_⟩
  refine qc F A H σ s _ o (p.seq fun q s1 v F1 A1 H1 _ o1 st1 r1 p1 => ?_)
  obtain rfl : v = q := r1
  cases v with
  | true => exact iteT (qa F1 A1 H1 σ s1 Q o1 (by simpa using p1))
  | false => exact iteF (qb F1 A1 H1 σ s1 Q o1 (by simpa using p1))
end
/-! ### calls of defs -/
section
variable {X : Cx} {C : Fx} {W : WX} {a b c e tg : Expr} {es : List Expr} {pos p : Pos} {fa : Stt → Res (List AV)} {f : Addr} {fd : FuncData} {ps : List Str} {k n : Nat} {m : List SV → List MO → FRes} {x : Str}
/-- the number of arguments is right -/
def avN (n : Nat) (fa : Stt → Res (List AV)) : Stt → Res (List AV) := fun s => (fa s).bind fun l s1 => if l.length = n then .ok l s1 else .stuck
theorem dv_call (F : FnP X.prog X.w X.K X.mg X.base C.cl k f fd ps m) (hr : Room k X.A) (gu : X.A.guards = some []) (tk : Takes X W) (hK : X.K = C.K) (hm : X.mg x = some (.ref f)) (hk : PySem.W.keepIn X.K (.ref f) = true) (hb : Binds X.K fd ps []) (ha : DL X C W (a :: es) fa)
    (hg : Gl X x := by rfl) (hdb : (x == ("__debug__" : Str)) = false := by decide) (he : starEach (a :: es) X.env = (false, eval a X.env) :: starEach es X.env := by rfl) (hpl : (backTo pos (starEach es X.env)).any (·.1) = false := by rfl) (hnn : ps.length = n := by rfl) :
    DV X C W (.Call (.Name x p) (a :: es) [] pos) (eCall m (avN n fa)) := by
  subst hnn
  obtain ⟨ta, pa, qa⟩ := ha.pr
  refine ⟨_, pe_callG (E := fun σ c d H => W c d σ H) F hr gu hg hm hk hb .nil (fun σ => passAt tk σ) pa hdb he hpl, fun F A H σ s Q o pp => ?_⟩
  show ta σ H fun vs H1 => spOf X.K C.cl ps.length m (vs ++ []) H1 Q (fun c d H => W c d σ H)
  unfold eCall avN at pp
  refine qa F A H σ s _ o ?_
  cases hf : fa s with
  | ok avs s1 =>
    rw [hf] at pp
    simp only [Res.bind] at pp
    intro vs F1 A1 H1 o1 st1 r1
    rw [List.append_nil]
    by_cases hl : avs.length = ps.length
    · rw [if_pos hl] at pp
      exact call_post hK hl o1 r1 (Post.after st1 pp)
    · rw [if_neg hl] at pp; exact pp.elim
  | ex c v s1 => rw [hf] at pp; exact pp
  | stuck => rw [hf] at pp; exact pp
/-- as call_post, the result a fresh object -/
theorem call_postO {F H : Hp} {A : Nat → List Addr} {σ : L2.St} {s : Stt} {avs : List AV} {vs : List V} {Q : VK} (hK : X.K = C.K) (hlen : avs.length = n) (o : OkF C F A H σ s) (r : RAs C σ F vs avs)
    (p : PostO C W F A H σ (match lowerA s avs [] with
  | none => Res.stuck
  | some (ps, ks) => if distinct ks = true then match getAll s ks with
    | none => Res.stuck
    | some ms => match m ps ms with
      | .ok _ _ => Res.stuck
      | .own o ms' => Res.ok o (setAll s ks ms')
      | .ex c v ms' => Res.ex c v (setAll s ks ms')
      | .stuck => Res.stuck
    else Res.stuck) Q) : spOf X.K C.cl n m vs H Q (fun c d H => W c d σ H) := by
  have hl : vs.length = avs.length := by
    clear p hlen
    induction r with
    | nil => rfl
    | pv _ _ ih => simpa using ih
    | sl _ _ ih => simpa using ih
  cases e1 : lowerA s avs [] with
  | none => rw [e1] at p; exact p.elim
  | some pk =>
    obtain ⟨ps, ks⟩ := pk
    rw [e1] at p
    simp only at p
    split at p
    · rename_i hd
      cases e2 : getAll s ks with
      | none => rw [e2] at p; exact p.elim
      | some ms =>
        rw [e2] at p
        simp only at p
        obtain ⟨c1, c2, c3⟩ := call_core o e1 hd e2 r
        refine ⟨hl.trans hlen, subC σ A C ks, F, ps, ms, hK.symm, rfl, c1, c2, ?_⟩
        cases e3 : m ps ms with
        | ok v ms' => rw [e3] at p; exact p.elim
        | own mo ms' =>
          rw [e3] at p
          intro q F' H' o' st' f'
          obtain ⟨o2, st2, f2⟩ := c3 F' H' ms' o' st'
          exact p q F' A H' o2 st2 (f2 q _ f')
        | ex c v ms' =>
          rw [e3] at p
          intro d F' H' o' st' x'
          obtain ⟨o2, st2, _⟩ := c3 F' H' ms' o' st'
          obtain ⟨u, h1, h2⟩ := x'
          exact p d F' A H' o2 st2 ⟨u, h1, h2.cg (by rfl) (by rfl)⟩
        | stuck => rw [e3] at p; exact p.elim
    · exact p.elim
theorem do_call (F : FnP X.prog X.w X.K X.mg X.base C.cl k f fd ps m) (hr : Room k X.A) (gu : X.A.guards = some []) (tk : Takes X W) (hK : X.K = C.K) (hm : X.mg x = some (.ref f)) (hk : PySem.W.keepIn X.K (.ref f) = true) (hb : Binds X.K fd ps []) (ha : DL X C W (a :: es) fa)
    (hg : Gl X x := by rfl) (hdb : (x == ("__debug__" : Str)) = false := by decide) (he : starEach (a :: es) X.env = (false, eval a X.env) :: starEach es X.env := by rfl) (hpl : (backTo pos (starEach es X.env)).any (·.1) = false := by rfl) (hnn : ps.length = n := by rfl) :
    DO X C W (.Call (.Name x p) (a :: es) [] pos) (oCall m (avN n fa)) := by
  subst hnn
  obtain ⟨ta, pa, qa⟩ := ha.pr
  refine ⟨_, pe_callG (E := fun σ c d H => W c d σ H) F hr gu hg hm hk hb .nil (fun σ => passAt tk σ) pa hdb he hpl, fun F A H σ s Q o pp => ?_⟩
  show ta σ H fun vs H1 => spOf X.K C.cl ps.length m (vs ++ []) H1 Q (fun c d H => W c d σ H)
  unfold oCall avN at pp
  refine qa F A H σ s _ o ?_
  cases hf : fa s with
  | ok avs s1 =>
    rw [hf] at pp
    simp only [Res.bind] at pp
    intro vs F1 A1 H1 o1 st1 r1
    rw [List.append_nil]
    by_cases hl : avs.length = ps.length
    · rw [if_pos hl] at pp
      exact call_postO hK hl o1 r1 (PostO.after st1 pp)
    · rw [if_neg hl] at pp; exact pp.elim
  | ex c v s1 => rw [hf] at pp; exact pp
  | stuck => rw [hf] at pp; exact pp
end
end PL
/-! PL7: list comprehensions. -/
namespace PL
open PySem PySem.Spec PyProof.Rows L2
def wipeR (ro : List (Option SV)) : List Nat → List (Option SV)
  | [] => ro
  | v :: vs => (wipeR ro vs).set v none
def wipeS (vs : List Nat) (s : Stt) : Stt := ⟨wipeR s.ro vs, s.mu⟩
def keepV : Option (Option SV) → Option SV
  | some (some (.val p)) => some (.val p)
  | _ => none
def backR (r0 ro : List (Option SV)) : List Nat → List (Option SV)
  | [] => ro
  | v :: vs => (backR r0 ro vs).set v (keepV r0[v]?)
/-- behind the block: the block's own names are as they were -/
def backS (vs : List Nat) (s0 s : Stt) : Stt := ⟨backR s0.ro s.ro vs, s.mu⟩
theorem wipeR_len (ro : List (Option SV)) : ∀ vs, (wipeR ro vs).length = ro.length
  | [] => rfl
  | v :: vs => by unfold wipeR; rw [List.length_set, wipeR_len ro vs]
theorem backR_len (r0 ro : List (Option SV)) : ∀ vs, (backR r0 ro vs).length = ro.length
  | [] => rfl
  | v :: vs => by unfold backR; rw [List.length_set, backR_len r0 ro vs]
theorem wipeR_some {ro : List (Option SV)} {i : Nat} {x : SV} : ∀ {vs : List Nat}, (wipeR ro vs)[i]? = some (some x) → ro[i]? = some (some x) ∧ i ∉ vs
  | [], h => ⟨h, by simp⟩
  | v :: vs, h => by
    unfold wipeR at h
    by_cases hi : v = i
    · subst hi
      have hl : v < (wipeR ro vs).length := by
        have := (List.getElem?_eq_some_iff.mp h).1
        rwa [List.length_set] at this
      rw [List.getElem?_set_self hl] at h; cases h
    · rw [List.getElem?_set_ne hi] at h
      obtain ⟨h1, h2⟩ := wipeR_some h
      exact ⟨h1, fun z => (List.mem_cons.mp z).elim (fun e => hi e.symm) h2⟩
theorem wipe_out' {σ : L2.St} {i : Nat} : ∀ {vs : List Nat}, i ∉ vs → (L2.wipe σ vs)[i]? = σ[i]?
  | [], _ => rfl
  | v :: vs, h => by
    unfold L2.wipe
    rw [List.getElem?_set_ne (fun e => h (by rw [e]; exact List.mem_cons_self))]
    exact wipe_out' fun z => h (List.mem_cons_of_mem _ z)
theorem backR_some {r0 ro : List (Option SV)} {i : Nat} {x : SV} : ∀ {vs : List Nat}, (backR r0 ro vs)[i]? = some (some x) → (i ∈ vs ∧ ∃ p, x = .val p ∧ r0[i]? = some (some (.val p))) ∨ (i ∉ vs ∧ ro[i]? = some (some x))
  | [], h => .inr ⟨by simp, h⟩
  | v :: vs, h => by
    unfold backR at h
    by_cases hi : v = i
    · subst hi
      have hl : v < (backR r0 ro vs).length := by
        have := (List.getElem?_eq_some_iff.mp h).1
        rwa [List.length_set] at this
      rw [List.getElem?_set_self hl] at h
      have h : keepV r0[v]? = some x := Option.some.inj h
      unfold keepV at h
      split at h
      · rename_i p e
        cases h
        exact .inl ⟨List.mem_cons_self, p, rfl, e⟩
      · cases h
    · rw [List.getElem?_set_ne hi] at h
      rcases backR_some h with ⟨h1, h2⟩ | ⟨h1, h2⟩
      · exact .inl ⟨List.mem_cons_of_mem _ h1, h2⟩
      · exact .inr ⟨fun z => (List.mem_cons.mp z).elim (fun e => hi e.symm) h1, h2⟩
section
variable {C : Fx} {F H : Hp} {A : Nat → List Addr} {σ : L2.St} {s : Stt}
theorem OkF.wipe (o : OkF C F A H σ s) (vs : List Nat) : OkF C F A H (L2.wipe σ vs) (wipeS vs s) :=
  ⟨by show _ = (wipeR s.ro vs).length; rw [L2.wipe_length, wipeR_len]; exact o.len, o.sub, fun i v e => by
      obtain ⟨h1, h2⟩ := wipeR_some e
      obtain ⟨u, h3, h4⟩ := o.val i v h1
      exact ⟨u, (wipe_out' h2).trans h3, h4⟩, fun i m e => by
      obtain ⟨h1, h2⟩ := wipeR_some e
      obtain ⟨u, h3, h4⟩ := o.own i m h1
      exact ⟨u, (wipe_out' h2).trans h3, h4⟩, o.nb, fun i k e => by
      obtain ⟨h1, h2⟩ := wipeR_some e
      obtain ⟨h3, h4⟩ := o.lent i k h1
      exact ⟨(wipe_out' h2).trans h3, h4⟩, o.bor, o.free, o.dis, o.freeB, o.disB, o.ext⟩
theorem OkF.back {F2 H2 : Hp} {A2 : Nat → List Addr} {s2 : Stt} {vs : List Nat} (o : OkF C F A H σ s) (st : Step C F A H F2 A2 H2) (o2 : OkF C F2 A2 H2 (L2.wipe σ vs) s2) : OkF C F2 A2 H2 σ (backS vs s s2) :=
  ⟨by show _ = (backR s.ro s2.ro vs).length; rw [backR_len, ← o2.len, L2.wipe_length], o2.sub, fun i v e => by
      rcases backR_some e with ⟨h1, p, e1, h2⟩ | ⟨h1, h2⟩
      · cases e1
        obtain ⟨u, h3, h4⟩ := o.val i v h2
        exact ⟨u, h3, h4.mono st.s1⟩
      · obtain ⟨u, h3, h4⟩ := o2.val i v h2
        exact ⟨u, (wipe_out' h1).symm.trans h3, h4⟩, fun i m e => by
      rcases backR_some e with ⟨h1, p, e1, h2⟩ | ⟨h1, h2⟩
      · cases e1
      · obtain ⟨u, h3, h4⟩ := o2.own i m h2
        exact ⟨u, (wipe_out' h1).symm.trans h3, h4⟩, o2.nb, fun i k e => by
      rcases backR_some e with ⟨h1, p, e1, h2⟩ | ⟨h1, h2⟩
      · cases e1
      · obtain ⟨h3, h4⟩ := o2.lent i k h2
        exact ⟨(wipe_out' h1).symm.trans h3, h4⟩, o2.bor, o2.free, o2.dis, o2.freeB, o2.disB, o2.ext⟩
/-- an object that is not the state's own is changed -/
theorem OkF.other {D : Addr} {x : HO} (o : OkF C F A H σ s) (h1 : F D = none) (h2 : ¬ OwnA A D) (h3 : ¬ Bor C D) (h4 : H D ≠ none) (h5 : ∀ o, H D = some o → ¬ Tbx o) : OkF C F A (upd H D x) σ s :=
  ⟨o.len, fun b u e => by rw [upd_ne (ne_of_none e h1)]; exact o.sub b u e, o.val, fun i m e => by
      obtain ⟨p, q1, q2⟩ := o.own i m e
      exact ⟨p, q1, q2.keep (fun _ _ h => h) fun b u hb hu => by rw [upd_ne (show b ≠ D from fun z => h2 ⟨i, z ▸ hb⟩)]; exact hu⟩, o.nb, o.lent, fun k m e => by
      have hk : k < C.nb := by rw [← o.nb]; exact (List.getElem?_eq_some_iff.mp e).1
      exact (o.bor k m e).keep (fun _ _ h => h) fun b u hb hu => by rw [upd_ne (show b ≠ D from fun z => h3 ⟨k, hk, z ▸ hb⟩)]; exact hu, fun i b hb => by
      obtain ⟨q1, q2⟩ := o.free i b hb
      exact ⟨q1, by rw [upd_ne (show b ≠ D from fun z => h2 ⟨i, z ▸ hb⟩)]; exact q2⟩, o.dis, o.freeB, o.disB, ⟨o.ext.1, o.ext.2.off0 fun b u t e => by rw [upd_ne (show b ≠ D from fun z => h5 u (z ▸ e) t)]; exact e⟩⟩
theorem Step.other {F0 H0 : Hp} {A0 : Nat → List Addr} {D : Addr} {x : HO} (st : Step C F0 A0 H0 F A H) (h : H0 D = none) : Step C F0 A0 H0 F A (upd H D x) :=
  ⟨st.s1, st.s2, st.s3, fun b u e nt n1 n2 => by rw [upd_ne (ne_of_none e h)]; exact st.s4 b u e nt n1 n2, fun b e => by
    by_cases hb : b = D
    · subst hb; rw [upd_same]; simp
    · rw [upd_ne hb]; exact st.s5 b e⟩
/-- a thing that is not the state's own stays so, and as it is -/
structure Aside (C : Fx) (F : Hp) (A : Nat → List Addr) (H : Hp) (D : Addr) (x : HO) : Prop where
  a1 : F D = none
  a2 : ¬ OwnA A D
  a3 : ¬ Bor C D
  a4 : H D = some x
theorem Aside.step {F' H' : Hp} {A' : Nat → List Addr} {D : Addr} {x : HO} (a : Aside C F A H D x) (st : Step C F A H F' A' H') (nt : ∀ ps, x ≠ .tbl ps := by intro ps h; cases h) : Aside C F' A' H' D x where
  a1 := by
    cases e : F' D with
    | none => rfl
    | some y =>
      rcases st.s2 D (by rw [e]; simp) with z | z | z
      · exact absurd a.a1 z
      · rw [a.a4] at z; cases z
      · exact absurd z a.a2
  a2 := fun z => by
    rcases st.s3 D z with q | q
    · exact a.a2 q
    · rw [a.a4] at q; cases q
  a3 := a.a3
  a4 := st.s4 D x a.a4 nt a.a2 a.a3
end
theorem SameOut.wipe {vs : List Nat} {σ σ' : L2.St} (h : SameOut (fun i => decide (i ∈ vs)) σ σ') : L2.wipe σ' vs = L2.wipe σ vs := by
  have key : ∀ (us : List Nat) (i : Nat), (i ∈ us ∨ σ'[i]? = σ[i]?) → (L2.wipe σ' us)[i]? = (L2.wipe σ us)[i]? := by
    intro us
    induction us with
    | nil => intro i h; rcases h with z | z
             · cases z
             · exact z
    | cons v us ih =>
      intro i hi
      unfold L2.wipe
      by_cases e : v = i
      · subst e
        by_cases hl : v < σ.length
        · rw [List.getElem?_set_self (by rw [L2.wipe_length, h.1]; exact hl), List.getElem?_set_self (by rw [L2.wipe_length]; exact hl)]
        · rw [List.getElem?_eq_none (by rw [List.length_set, L2.wipe_length, h.1]; exact Nat.le_of_not_lt hl), List.getElem?_eq_none (by rw [List.length_set, L2.wipe_length]; exact Nat.le_of_not_lt hl)]
      · rw [List.getElem?_set_ne e, List.getElem?_set_ne e]
        refine ih i ?_
        rcases hi with z | z
        · rcases List.mem_cons.mp z with q | q
          · exact absurd q.symm e
          · exact .inl q
        · exact .inr z
  refine List.ext_getElem? fun i => key vs i ?_
  by_cases hm : i ∈ vs
  · exact .inl hm
  · exact .inr (h.2 i (decide_eq_false hm))
def compL (vs : List Nat) (a : PV → Stt → Option Stt) (ft : Stt → Res Bool) (fe : Stt → Res PV) : List PV → List PV → Stt → Res (List PV)
  | [], acc, s => .ok acc s
  | p :: r, acc, s => match a p s with
    | none => .stuck
    | some s1 => (ft s1).bind fun b s2 => if b = true then (fe s2).bind fun y s3 => if acc.length < 16777216 then compL vs a ft fe r (acc ++ [y]) (wipeS vs s3) else .stuck
      else compL vs a ft fe r acc (wipeS vs s2)
def noEx {α : Type} : Res α → Res α
  | .ok a s => .ok a s
  | _ => .stuck
def oComp (vs : List Nat) (fi : Stt → Res (List PV)) (a : PV → Stt → Option Stt) (ft : Stt → Res Bool) (fe : Stt → Res PV) : Stt → Res MO := fun s => (fi s).bind fun l s1 => (noEx (compL vs a ft fe l [] (wipeS vs s1))).bind fun acc s2 => .ok (.lst acc) (backS vs s1 s2)
theorem compL_cons (vs : List Nat) (a : PV → Stt → Option Stt) (ft : Stt → Res Bool) (fe : Stt → Res PV) (p : PV) (r acc : List PV) (s s1 : Stt) (h : a p s = some s1) : compL vs a ft fe (p :: r) acc s = (ft s1).bind fun b s2 => if b = true then (fe s2).bind fun y s3 => if acc.length < 16777216 then compL vs a ft fe r (acc ++ [y]) (wipeS vs s3) else .stuck
      else compL vs a ft fe r acc (wipeS vs s2) := by
  show (match a p s with | none => _ | some s1 => _) = _
  rw [h]
def tYesD : Stt → Res Bool := fun s => .ok true s
abbrev W0 : WX := fun _ _ _ _ => False
section
variable {C : Fx} {W : WX}
/-- the reading of a comprehension, from those of its parts -/
theorem lc_den {ti : TI} {tg : TG} {tt : TT} {te : TE} {vs : List Nat} {fi : Stt → Res (List PV)} {a : PV → Stt → Option Stt} {ft : Stt → Res Bool} {fe : Stt → Res PV}
    (qi : ∀ F A H σ s (Q : It → Hp → Prop), OkF C F A H σ s → Post C W (RI C) F A H σ (fi s) Q → ti σ H Q)
    (qg : ∀ F A H σ s x p s' Q, OkF C F A H σ s → Rp C F x p → a p s = some s' → (∀ σ' F' A' H', OkF C F' A' H' σ' s' → Step C F A H F' A' H' → SameOut (fun i => decide (i ∈ vs)) σ σ' → Q σ' H') → tg x σ H Q)
    (qt : ∀ F A H σ s Q, OkF C F A H σ s → Post C W0 RB F A H σ (ft s) Q → tt σ H Q)
    (qe : ∀ F A H σ s Q, OkF C F A H σ s → Post C W0 (RV C) F A H σ (fe s) Q → te σ H Q) :
    ∀ F A H σ s Q, OkF C F A H σ s → PostO C W F A H σ (oComp vs fi a ft fe s) Q → tLc ti tg tt te vs σ H Q := by
  intro F A H σ s Q o p
  unfold oComp at p
  refine qi F A H σ s _ o (PostO.seq p fun l s1 J F1 A1 H1 _ o1 st1 r1 p1 => ?_)
  obtain ⟨G, Y, w, hG, hY⟩ := r1
  intro D hD
  -- the list of the results
  have hF1 : F1 D = none := o1.sub.free hD
  have nA1 : ¬ OwnA A1 D := fun ⟨i, z⟩ => (o1.free i D z).2 hD
  have nB1 : ¬ Bor C D := fun ⟨q, hq, z⟩ => by
    have hm : q < s1.mu.length := by rw [o1.nb]; exact hq
    exact (o1.bor q s1.mu[q] (List.getElem?_eq_getElem hm)).there D z hD
  obtain ⟨R, hR⟩ : ∃ R, noEx (compL vs a ft fe l [] (wipeS vs s1)) = R := ⟨_, rfl⟩
  rw [hR] at p1
  have key : ∃ acc0 s0, compL vs a ft fe l [] (wipeS vs s1) = .ok acc0 s0 ∧ PostO C W F1 A1 H1 σ (.ok (.lst acc0) (backS vs s1 s0)) Q := by
    cases e : compL vs a ft fe l [] (wipeS vs s1) with
    | ok acc0 s0 => rw [e] at hR; subst hR; exact ⟨acc0, s0, rfl, p1⟩
    | ex c v s0 => rw [e] at hR; subst hR; exact p1.elim
    | stuck => rw [e] at hR; subst hR; exact p1.elim
  obtain ⟨acc0, s0, hc0, pf⟩ := key
  refine lc_it w (fun i H2 => ∃ F2 A2 s2 acc xs, OkF C F2 A2 H2 (L2.wipe σ vs) s2 ∧ Step C F1 A1 H1 F2 A2 H2 ∧ Aside C F2 A2 H2 D (.lst xs) ∧ Rps C F2 xs acc ∧ compL vs a ft fe (l.drop i) acc s2 = .ok acc0 s0) ?_ (fun i H2 _ ⟨F2, A2, s2, acc, xs, o2, st2, _⟩ => hG H2 (st2.s1.trans o2.sub)) ?_ ?_
  · refine ⟨F1, A1, wipeS vs s1, [], [], ?_, ?_, ⟨hF1, nA1, nB1, upd_same⟩, .nil, by simpa using hc0⟩
    · have := (o1.fresh (u := .lst []) (m := .lst []) hD ⟨rfl, [], upd_same, .nil⟩).1
      exact this.wipe vs
    · exact (Step.refl).other hD
  · rintro i x H2 H3 hi ⟨F2, A2, s2, acc, xs, o2, st2, as2, ra2, hc⟩ y
    have hl : l[i]? = some l[i] := List.getElem?_eq_getElem hi
    obtain ⟨F3, o3, st3, r3⟩ := hY i F2 A2 H2 _ s2 x H3 l[i] o2 st2.s1 y hl
    rw [List.drop_eq_getElem_cons hi] at hc
    cases ea : a l[i] s2 with
    | none =>
      have z : compL vs a ft fe (l[i] :: l.drop (i + 1)) acc s2 = .stuck := by
        show (match a l[i] s2 with | none => _ | some s1 => _) = _
        rw [ea]
      rw [z] at hc; cases hc
    | some s3 =>
      rw [compL_cons _ _ _ _ _ _ _ _ _ ea] at hc
      refine qg F3 A2 H3 _ s2 x l[i] s3 _ o3 r3 ea fun σ4 F4 A4 H4 o4 st4 so => ?_
      have ww : L2.wipe σ4 vs = L2.wipe σ vs := by
        have e1 := so.wipe
        have e2 : L2.wipe (L2.wipe σ vs) vs = L2.wipe σ vs := by
          refine SameOut.wipe ⟨L2.wipe_length _ _, fun i h => wipe_out' (of_decide_eq_false h)⟩
        exact e1.trans e2
      refine ⟨ww, ?_⟩
      cases hb : ft s3 with
      | ex c v s5 => rw [hb] at hc; cases hc
      | stuck => rw [hb] at hc; cases hc
      | ok b s5 =>
        refine qt F4 A4 H4 σ4 s3 _ o4 ?_
        rw [hb] at hc ⊢
        intro b' F5 A5 H5 o5 st5 rb
        obtain rfl : b' = b := rb
        have sA := ((st2.trans st3).trans st4).trans st5
        have as5 := ((as2.step st3).step st4).step st5
        cases b' with
        | false =>
          refine iteF ?_
          have hc : compL vs a ft fe (l.drop (i + 1)) acc (wipeS vs s5) = .ok acc0 s0 := by simpa using hc
          exact ⟨F5, A5, wipeS vs s5, acc, xs, by rw [← ww]; exact o5.wipe vs, sA, as5, ra2.mono ((st3.s1.trans st4.s1).trans st5.s1), hc⟩
        | true =>
          refine iteT ?_
          have hc : ((fe s5).bind fun y s3 => if acc.length < 16777216 then compL vs a ft fe (l.drop (i + 1)) (acc ++ [y]) (wipeS vs s3) else .stuck) = .ok acc0 s0 := by simpa using hc
          cases hy : fe s5 with
          | ex c v s6 => rw [hy] at hc; cases hc
          | stuck => rw [hy] at hc; cases hc
          | ok yv s6 =>
            refine qe F5 A5 H5 σ4 s5 _ o5 ?_
            rw [hy] at hc ⊢
            intro u F6 A6 H6 o6 st6 r6
            have as6 := as5.step st6
            simp only [Res.bind] at hc
            by_cases hlen : acc.length < 16777216
            · rw [if_pos hlen] at hc
              have ra6 : Rps C F6 xs acc := ra2.mono (((st3.s1.trans st4.s1).trans st5.s1).trans st6.s1)
              refine ⟨xs, as6.a4, by rw [ra6.length, sizeLine_eq]; exact hlen, F6, A6, wipeS vs s6, acc ++ [yv], xs ++ [u], ?_, (sA.trans st6).other hD, ⟨as6.a1, as6.a2, as6.a3, upd_same⟩, ra6.append (.cons r6 .nil), hc⟩
              rw [← ww]
              exact (o6.other as6.a1 as6.a2 as6.a3 (by rw [as6.a4]; simp) (fun u e => by rw [as6.a4] at e; cases e; exact fun z => z)).wipe vs
            · rw [if_neg hlen] at hc; cases hc
  · rintro H2 ⟨F2, A2, s2, acc, xs, o2, st2, as2, ra2, hc⟩
    rw [List.drop_of_length_le (Nat.le_refl _)] at hc
    cases hc
    exact pf D F2 A2 H2 (o1.back st2 o2) st2 ⟨[D], ⟨rfl, xs, as2.a4, ra2⟩, fun b hb => by
      rw [List.mem_singleton] at hb
      subst hb
      exact ⟨as2.a1, as2.a2, as2.a3, .inl hD⟩⟩
end
section
variable {X : Cx} {C : Fx} {W : WX} {elt tg iter : Expr} {ifs : List Expr} {scope : Scope} {own : List (Str × Nat)} {pos : Pos} {fi : Stt → Res (List PV)} {a : PV → Stt → Option Stt} {ft : Stt → Res Bool} {fe : Stt → Res PV}
/-- the tests of a comprehension -/
structure DTs (X : Cx) (C : Fx) (W : WX) (ifs : List Expr) (f : Stt → Res Bool) : Prop where
  pr : ∃ te, PTs X ifs te ∧ ∀ F A H σ s Q, OkF C F A H σ s → Post C W RB F A H σ (f s) Q → te σ H Q
theorem dts_nil : DTs X C W [] tYesD := ⟨_, pts_nil, fun F A H σ s Q o p => Post.now o p rfl⟩
theorem dts_one {c : Expr} (h : DT X C W c ft) : DTs X C W [c] ft := let ⟨t, p, q⟩ := h.pr; ⟨t, pts_one p, q⟩
/-- the readings that fit every context -/
def cTE (C : Fx) (W : WX) (f : Stt → Res PV) : TE := fun σ H Q => ∃ F A s, OkF C F A H σ s ∧ Post C W (RV C) F A H σ (f s) Q
def cTT (C : Fx) (W : WX) (f : Stt → Res Bool) : TT := fun σ H Q => ∃ F A s, OkF C F A H σ s ∧ Post C W RB F A H σ (f s) Q
def cTG (C : Fx) (vs : Nat → Bool) (a : PV → Stt → Option Stt) : TG := fun x σ H Q => ∃ F A s p s', OkF C F A H σ s ∧ Rp C F x p ∧ a p s = some s' ∧ ∀ σ' F' A' H', OkF C F' A' H' σ' s' → Step C F A H F' A' H' → SameOut vs σ σ' → Q σ' H'
theorem DV.c {e : Expr} (h : DV X C W e fe) : PE X e (cTE C W fe) := by
  obtain ⟨t, p, q⟩ := h.pr
  exact ⟨fun pins s σ H Q I ⟨F, A, s1, o, pp⟩ => p.run pins s σ H Q I (q F A H σ s1 Q o pp)⟩
theorem DTs.c (h : DTs X C W ifs ft) : PTs X ifs (cTT C W ft) := by
  obtain ⟨t, p, q⟩ := h.pr
  exact ⟨fun pins s σ H Q I ⟨F, A, s1, o, pp⟩ => p.run pins s σ H Q I (q F A H σ s1 Q o pp)⟩
theorem DG.c {vs : Nat → Bool} (h : DG X C vs tg a) : PG X tg (cTG C vs a) := by
  obtain ⟨t, p, q⟩ := h.pr
  exact ⟨fun pins s σ H v u Q I r ⟨F, A, s1, pv, s2, o, rp, e, k⟩ => p.run pins s σ H v u Q I r (q F A H σ s1 v pv s2 Q o rp e k)⟩
theorem do_lc (hc : X.calm = true) (hN : X.N.Nodup) (ok : BlkOk X.N X.env.scope scope own) (hi : DI X C W tg iter fi)
    (hg : ∀ (s : Shared) (H : Hp) (L : Addr) (cl : List (Str × Addr)) (fp : List Addr), DG (X.blk s H scope (compEnvC scope cl L X.env) fp) C (fun i => decide (i ∈ own.map (·.2))) tg a)
    (ht : ∀ (s : Shared) (H : Hp) (L : Addr) (cl : List (Str × Addr)) (fp : List Addr), DTs (X.blk s H scope (compEnvC scope cl L X.env) fp) C W0 ifs ft)
    (he : ∀ (s : Shared) (H : Hp) (L : Addr) (cl : List (Str × Addr)) (fp : List Addr), DV (X.blk s H scope (compEnvC scope cl L X.env) fp) C W0 elt fe) (hs : ∀ x, foldedSetIterable iter X.env x = pure x := by intro _; rfl) :
    DO X C W (.ListComp elt [⟨tg, iter, ifs, 0⟩] scope pos) (oComp (own.map (·.2)) fi a ft fe) := by
  obtain ⟨ti, pi, qi⟩ := hi.pr
  refine ⟨_, pe_lc hc hN pi ok (fun s H L cl fp => (hg s H L cl fp).c) (fun s H L cl fp => (ht s H L cl fp).c) (fun s H L cl fp => (he s H L cl fp).c) hs, ?_⟩
  exact lc_den qi (fun F A H σ s x p s' Q o r e k => ⟨F, A, s, p, s', o, r, e, k⟩) (fun F A H σ s Q o p => ⟨F, A, s, o, p⟩) (fun F A H σ s Q o p => ⟨F, A, s, o, p⟩)
/-- name = [..] on one line, the name a local: the list is a plain value -/
theorem ds_lcV {i : Nat} {y : Str} {py spos : Pos} (hc : X.calm = true) (hN : X.N.Nodup) (hy : X.N[i]? = some y) (hyl : X.env.scope.names.lookup y = some .local)
    (hsw : swapsWith (.ListComp elt [⟨tg, iter, ifs, 0⟩] scope pos) (some (.Name y py)) spos.line X.env = pure true) (ok : BlkOk X.N X.env.scope scope own) (hi : DI X C W tg iter fi)
    (hg : ∀ (s : Shared) (H : Hp) (L : Addr) (cl : List (Str × Addr)) (fp : List Addr), DG (X.blk s H scope (compEnvC scope cl L X.env) fp) C (fun i => decide (i ∈ own.map (·.2))) tg a)
    (ht : ∀ (s : Shared) (H : Hp) (L : Addr) (cl : List (Str × Addr)) (fp : List Addr), DTs (X.blk s H scope (compEnvC scope cl L X.env) fp) C W0 ifs ft)
    (he : ∀ (s : Shared) (H : Hp) (L : Addr) (cl : List (Str × Addr)) (fp : List Addr), DV (X.blk s H scope (compEnvC scope cl L X.env) fp) C W0 elt fe) (hs : ∀ x, foldedSetIterable iter X.env x = pure x := by intro _; rfl) :
    DS X C W (.Assign [.Name y py] (.ListComp elt [⟨tg, iter, ifs, 0⟩] scope pos) spos) (gAsg (frz (oComp (own.map (·.2)) fi a ft fe)) (aName i)) := by
  obtain ⟨ti, pi, qi⟩ := hi.pr
  refine ⟨_, ps_setLc hc hN hy hyl hsw pi ok (fun s H L cl fp => (hg s H L cl fp).c) (fun s H L cl fp => (ht s H L cl fp).c) (fun s H L cl fp => (he s H L cl fp).c) hs, fun F A H σ s D o p => ?_⟩
  have den := lc_den (C := C) (W := W) (vs := own.map (·.2)) (tg := cTG C (fun i => decide (i ∈ own.map (·.2))) a) (tt := cTT C W0 ft) (te := cTE C W0 fe) qi (fun F A H σ s x p s' Q o r e k => ⟨F, A, s, p, s', o, r, e, k⟩) (fun F A H σ s Q o p => ⟨F, A, s, o, p⟩) (fun F A H σ s Q o p => ⟨F, A, s, o, p⟩)
  refine den F A H σ s _ o ?_
  unfold gAsg frz at p
  cases hr : oComp (own.map (·.2)) fi a ft fe s with
  | ok m s1 =>
    rw [hr] at p
    cases m with
    | lst l =>
      intro q F' A' H' o1 st1 fr
      obtain ⟨F2, o2, st2, r2⟩ := o1.freeze st1 fr
      obtain ⟨o3, st3⟩ := o2.setV (i := i) r2
      exact p _ _ _ _ o3 (st2.trans st3)
    | _ => exact p.elim
  | ex c v s1 => rw [hr] at p; exact fun d F' A' H' => p d σ F' A' H'
  | stuck => rw [hr] at p; exact p
end
end PL
/-! PL8: operators and built-ins by plain values. -/
namespace PL
open PySem PySem.Spec PyProof.Rows L2
/-! ### numbers -/
def okMul (i j : Int) : Bool := decide (i.natAbs.log2 + j.natAbs.log2 < 1000000)
def okDiv (j : Int) : Bool := decide (j ≠ 0 ∧ j.natAbs.log2 < 9000)
def okPow (i j : Int) : Bool := decide (0 ≤ j ∧ (i.natAbs.log2 + 1) * j.toNat ≤ 1000000)
def pSub : PV → PV → Option PV
  | .int i, .int j => some (.int (i - j))
  | _, _ => none
def pFdiv : PV → PV → Option PV
  | .int i, .int j => if okDiv j = true then some (.int (i.fdiv j)) else none
  | _, _ => none
def pMod : PV → PV → Option PV
  | .int i, .int j => if j ≠ 0 then some (.int (i.fmod j)) else none
  | _, _ => none
def pPow : PV → PV → Option PV
  | .int i, .int j => if okPow i j = true then some (.int (i ^ j.toNat)) else none
  | _, _ => none
def pNeg : PV → Option PV
  | .int i => some (.int (-i))
  | _ => none
def pLt : PV → PV → Option PV
  | .int i, .int j => some (.bl (decide (i < j)))
  | _, _ => none
def pLe : PV → PV → Option PV
  | .int i, .int j => some (.bl (decide (i ≤ j)))
  | _, _ => none
def pGt : PV → PV → Option PV
  | .int i, .int j => some (.bl (decide (j < i)))
  | _, _ => none
def pGe : PV → PV → Option PV
  | .int i, .int j => some (.bl (decide (j ≤ i)))
  | _, _ => none
def pAdd : PV → PV → Option PV
  | .int i, .int j => some (.int (i + j))
  | .str x, .str y => if x.length + y.length ≤ 16777216 then some (.str (x ++ y)) else none
  | .lst x, .lst y => if x.length + y.length ≤ 16777216 then some (.lst (x ++ y)) else none
  | .tup x, .tup y => if x.length + y.length ≤ 16777216 then some (.tup (x ++ y)) else none
  | _, _ => none
def pMul : PV → PV → Option PV
  | .int i, .int j => if okMul i j = true then some (.int (i * j)) else none
  | .lst x, .int k => if -(2 ^ 63) ≤ k ∧ k < 2 ^ 63 ∧ x.length * k.toNat ≤ 16777216 then some (.lst (List.replicate k.toNat x).flatten) else none
  | _, _ => none
section
variable {X : Cx} {C : Fx}
/-- two ints -/
theorem opD_int {Cd : Int → Int → Prop} {g : Int → Int → V} {f : PV → PV → Option PV} {z : Int → Int → PV} (h : ∀ p q y, f p q = some y → ∃ i j, p = .int i ∧ q = .int j ∧ Cd i j ∧ y = z i j) (hz : ∀ F i j, Rp C F (g i j) (z i j)) : OpD C (rI Cd g) f := by
  intro F A H σ s x y p q w Q o r1 r2 e k
  obtain ⟨i, j, rfl, rfl, hc, rfl⟩ := h _ _ _ e
  cases r1
  cases r2
  exact ⟨i, j, rfl, rfl, hc, k _ F A H o .refl (hz F i j)⟩
theorem opD_int0 {g : Int → Int → V} {f : PV → PV → Option PV} {z : Int → Int → PV} (h : ∀ p q y, f p q = some y → ∃ i j, p = .int i ∧ q = .int j ∧ y = z i j) (hz : ∀ F i j, Rp C F (g i j) (z i j)) : OpD C (rI0 g) f := by
  intro F A H σ s x y p q w Q o r1 r2 e k
  obtain ⟨i, j, rfl, rfl, rfl⟩ := h _ _ _ e
  cases r1
  cases r2
  exact ⟨i, j, rfl, rfl, k _ F A H o .refl (hz F i j)⟩
theorem OpD.or {r r' : R2} {f : PV → PV → Option PV} (h : ∀ F A H σ s x y p q z (Q : VK), OkF C F A H σ s → Rp C F x p → Rp C F y q → f p q = some z →
    (∀ v F' A' H', OkF C F' A' H' σ s → Step C F A H F' A' H' → Rp C F' v z → Q v H') → r x y H Q ∨ r' x y H Q) : OpD C (fun x y H Q => r x y H Q ∨ r' x y H Q) f := h
def CDivA (i j : Int) : Prop := j ≠ 0 ∧ j.natAbs.log2 < 9000
theorem op_fdivA : OpR X (binaryOp .FloorDiv) (rI CDivA fun i j => .int (i.fdiv j)) := opI fun _ _ _ _ _ _ _ hc q => floordiv_int hc.1 q (.inl (PyProof.noPylong_of_log2 hc.2))
def CPowA (i j : Int) : Prop := 0 ≤ j ∧ (i.natAbs.log2 + 1) * j.toNat ≤ 1000000
theorem bits_log (i : Int) : Builtin.Int.intBits i ≤ i.natAbs.log2 + 1 := by
  unfold Builtin.Int.intBits
  split <;> omega
theorem op_powA : OpR X (binaryOp .Pow) (rI CPowA fun i j => .int (i ^ j.toNat)) := opI fun i j _ _ _ _ _ hc q => by
  obtain ⟨h1, h2⟩ := hc
  refine pow_int h1 ?_ q
  have b := bits_log i
  have e : ((j.toNat : Nat) : Int) = j := Int.toNat_of_nonneg h1
  have m : Builtin.Int.intBits i * j.toNat ≤ 1000000 := Nat.le_trans (Nat.mul_le_mul_right _ b) h2
  have : ((Builtin.Int.intBits i * j.toNat : Nat) : Int) ≤ ((1000000 : Nat) : Int) := Int.ofNat_le.mpr m
  rw [Int.natCast_mul, e] at this
  have z : (1000000 : Int) ≤ 2 ^ 27 := by decide
  omega
theorem d_sub : OpD C (rI0 fun i j => .int (i - j)) pSub := opD_int0 (z := fun i j => .int (i - j)) (fun p q y e => by unfold pSub at e; split at e <;> cases e; exact ⟨_, _, rfl, rfl, rfl⟩) fun _ _ _ => .int _
theorem d_lt : OpD C (rI0 fun i j => .bl (decide (i < j))) pLt := opD_int0 (z := fun i j => .bl (decide (i < j))) (fun p q y e => by unfold pLt at e; split at e <;> cases e; exact ⟨_, _, rfl, rfl, rfl⟩) fun _ _ _ => .bl _
theorem d_le : OpD C (rI0 fun i j => .bl (decide (i ≤ j))) pLe := opD_int0 (z := fun i j => .bl (decide (i ≤ j))) (fun p q y e => by unfold pLe at e; split at e <;> cases e; exact ⟨_, _, rfl, rfl, rfl⟩) fun _ _ _ => .bl _
theorem d_gt : OpD C (rI0 fun i j => .bl (decide (j < i))) pGt := opD_int0 (z := fun i j => .bl (decide (j < i))) (fun p q y e => by unfold pGt at e; split at e <;> cases e; exact ⟨_, _, rfl, rfl, rfl⟩) fun _ _ _ => .bl _
theorem d_ge : OpD C (rI0 fun i j => .bl (decide (j ≤ i))) pGe := opD_int0 (z := fun i j => .bl (decide (j ≤ i))) (fun p q y e => by unfold pGe at e; split at e <;> cases e; exact ⟨_, _, rfl, rfl, rfl⟩) fun _ _ _ => .bl _
theorem d_fdiv : OpD C (rI CDivA fun i j => .int (i.fdiv j)) pFdiv := opD_int (z := fun i j => .int (i.fdiv j)) (fun p q y e => by
  unfold pFdiv at e; split at e
  · split at e
    · rename_i h; cases e; exact ⟨_, _, rfl, rfl, (by have z := of_decide_eq_true h; exact z), rfl⟩
    · cases e
  · cases e) fun _ _ _ => .int _
theorem d_mod : OpD C (rI (fun _ j => j ≠ 0) fun i j => .int (i.fmod j)) pMod := opD_int (z := fun i j => .int (i.fmod j)) (fun p q y e => by
  unfold pMod at e; split at e
  · split at e
    · rename_i h; cases e; exact ⟨_, _, rfl, rfl, h, rfl⟩
    · cases e
  · cases e) fun _ _ _ => .int _
theorem d_pow : OpD C (rI CPowA fun i j => .int (i ^ j.toNat)) pPow := opD_int (z := fun i j => .int (i ^ j.toNat)) (fun p q y e => by
  unfold pPow at e; split at e
  · split at e
    · rename_i h; cases e; exact ⟨_, _, rfl, rfl, (by have z := of_decide_eq_true h; exact z), rfl⟩
    · cases e
  · cases e) fun _ _ _ => .int _
theorem d_neg : UnD C (rU fun i => .int (-i)) pNeg := by
  intro F A H σ s x p z Q o r e k
  cases r with
  | int i => cases e; exact ⟨i, rfl, k _ F A H o .refl (.int _)⟩
  | _ => cases e
def rAddA (K : PySem.W.Frag) : R2 := fun x y H Q => rI0 (fun i j => .int (i + j)) x y H Q ∨ ((∃ i j, x = .str i ∧ y = .str j ∧ i.length + j.length ≤ sizeLine ∧ Q (.str (i ++ j)) H) ∨ (rCat x y H Q ∨ rCatA K x y H Q))
theorem op_addA : OpR X (binaryOp .Add) (rAddA X.K) := op_add.or (op_add_str.or (op_cat.or op_catA))
theorem d_add {K : PySem.W.Frag} (hK : K = C.K) : OpD C (rAddA K) pAdd := by
  intro F A H σ s x y p q z Q o r1 r2 e k
  unfold pAdd at e
  split at e
  · cases e; cases r1; cases r2
    exact .inl ⟨_, _, rfl, rfl, k _ F A H o .refl (.int _)⟩
  · split at e
    · rename_i hl
      cases e; cases r1; cases r2
      exact .inr (.inl ⟨_, _, rfl, rfl, line_le hl, k _ F A H o .refl (.str _)⟩)
    · cases e
  · split at e
    · rename_i hl
      cases e
      cases r1 with
      | @lst a xs l h1 h2 =>
        cases r2 with
        | @lst b ys l' h3 h4 =>
          refine .inr (.inr (.inl ⟨a, b, xs, ys, rfl, rfl, o.sub _ _ h1, o.sub _ _ h3, by rw [h2.length, h4.length]; exact line_le hl, fun p hp => ?_⟩))
          obtain ⟨o2, st2⟩ := o.alloc (o := .lst (xs ++ ys)) hp
          exact k _ _ _ _ o2 st2 (.lst upd_same ((h2.append h4).mono st2.s1))
    · cases e
  · split at e
    · rename_i hl
      cases e
      cases r1 with
      | @tup a xs l h1 h2 =>
        cases r2 with
        | @tup b ys l' h3 h4 =>
          refine .inr (.inr (.inr ⟨a, b, xs, ys, rfl, rfl, by rw [hK]; exact sqT_mono o.sub h1, by rw [hK]; exact sqT_mono o.sub h3, by rw [h2.length, h4.length]; exact line_le hl, fun e => ?_, fun _ e => ?_, fun _ _ p hp => ?_⟩))
          · subst e
            cases h2
            exact k _ F A H o .refl (.tup h3 h4)
          · subst e
            cases h4
            rw [List.append_nil] at k
            exact k _ F A H o .refl (.tup h1 h2)
          · obtain ⟨o2, st2⟩ := o.alloc (o := .tup (xs ++ ys)) hp
            exact k _ _ _ _ o2 st2 (.tup (.of upd_same) ((h2.append h4).mono st2.s1))
    · cases e
  · cases e
def rMulA : R2 := fun x y H Q => rI CMulW (fun i j => .int (i * j)) x y H Q ∨ rRep x y H Q
theorem op_mulA : OpR X (binaryOp .Mult) rMulA := op_mulW.or op_rep
theorem Rps.rep {F : Hp} {xs : List V} {l : List PV} (r : Rps C F xs l) : ∀ k : Nat, Rps C F (List.replicate k xs).flatten (List.replicate k l).flatten
  | 0 => .nil
  | k + 1 => by
    rw [List.replicate_succ, List.replicate_succ, List.flatten_cons, List.flatten_cons]
    exact r.append (Rps.rep r k)
theorem d_mul : OpD C rMulA pMul := by
  intro F A H σ s x y p q z Q o r1 r2 e k
  unfold pMul at e
  split at e
  · split at e
    · rename_i h
      cases e; cases r1; cases r2
      exact .inl ⟨_, _, rfl, rfl, (by have z := of_decide_eq_true h; exact z), k _ F A H o .refl (.int _)⟩
    · cases e
  · split at e
    · rename_i h
      cases e
      cases r2
      cases r1 with
      | @lst a xs l h1 h2 =>
        refine .inr ⟨a, _, xs, rfl, rfl, o.sub _ _ h1, h.1, h.2.1, by rw [h2.length]; exact line_le h.2.2, fun p hp => ?_⟩
        obtain ⟨o2, st2⟩ := o.alloc (o := .lst (List.replicate (Int.toNat _) xs).flatten) hp
        exact k _ _ _ _ o2 st2 (.lst upd_same ((h2.rep _).mono st2.s1))
    · cases e
  · cases e
end
/-! ### data, ==, in -/
mutual
def toD : PV → Option PyData
  | .non => some .none
  | .bl b => some (.bool b)
  | .int i => some (.int i)
  | .str x => some (.str x)
  | .tup l => (toDs l).map .tuple
  | .lst l => (toDs l).map .list
  | .scr l => (toDs l).map .list
  | .ins _ _ => none
  | .fnp => none
  | .exi _ _ => none
  | .dcv _ _ => none
def toDs : List PV → Option (List PyData)
  | [] => some []
  | p :: r => match toD p, toDs r with
    | some d, some ds => some (d :: ds)
    | _, _ => none
end
mutual
theorem dp_of {C : Fx} {F : Hp} : ∀ {v : V} {p : PV} {d : PyData}, Rp C F v p → toD p = some d → Dp C.K F v d
  | _, _, _, .non, e => by cases e; exact .non
  | _, _, _, .bl b, e => by cases e; exact .bl b
  | _, _, _, .int i, e => by cases e; exact .int i
  | _, _, _, .str x, e => by cases e; exact .str x
  | _, _, d, .tup (l := l) h r, e => by
    have e : (toDs l).map PyData.tuple = some d := e
    cases h2 : toDs l with
    | none => rw [h2] at e; cases e
    | some ds => rw [h2] at e; cases e; exact .tup h (dps_of r h2)
  | _, _, d, .lst (l := l) h r, e => by
    have e : (toDs l).map PyData.list = some d := e
    cases h2 : toDs l with
    | none => rw [h2] at e; cases e
    | some ds => rw [h2] at e; cases e; exact .lst (.of h) (dps_of r h2)
  | _, _, d, .scr (l := l) h r, e => by
    have e : (toDs l).map PyData.list = some d := e
    cases h2 : toDs l with
    | none => rw [h2] at e; cases e
    | some ds => rw [h2] at e; cases e; exact .lst h (dps_of r h2)
  | _, _, _, .ins _ _, e => by cases e
  | _, _, _, .fnp, e => by cases e
  | _, _, _, .exi _ _ _, e => by cases e
  | _, _, _, .dcv _ _ _, e => by cases e
theorem dps_of {C : Fx} {F : Hp} : ∀ {v : List V} {p : List PV} {d : List PyData}, Rps C F v p → toDs p = some d → DpAll C.K F v d
  | _, _, _, .nil, e => by cases e; exact .nil
  | _, p :: r, d, .cons h1 h2, e => by
    unfold toDs at e
    split at e
    · rename_i d1 ds e1 e2
      cases e
      exact .cons (dp_of h1 e1) (dps_of h2 e2)
    · cases e
end
mutual
theorem dp_mono {K : PySem.W.Frag} {F H : Hp} (sm : Same F H) : ∀ {v : V} {d : PyData}, Dp K F v d → Dp K H v d
  | _, _, .non => .non
  | _, _, .bl b => .bl b
  | _, _, .int i => .int i
  | _, _, .str x => .str x
  | _, _, .lst h r => .lst (sm.seq h) (dps_mono sm r)
  | _, _, .tup h r => .tup (sqT_mono sm h) (dps_mono sm r)
theorem dps_mono {K : PySem.W.Frag} {F H : Hp} (sm : Same F H) : ∀ {v : List V} {d : List PyData}, DpAll K F v d → DpAll K H v d
  | _, _, .nil => .nil
  | _, _, .cons h r => .cons (dp_mono sm h) (dps_mono sm r)
end
def pEqB (p q : PV) : Option Bool := match toD p, toD q with
  | some d, some e => if (SeqAt.shaped d && SeqAt.shaped e) = true then some (PyData.eqv d e) else none
  | _, _ => none
def pEq (p q : PV) : Option PV := (pEqB p q).map .bl
def pNe (p q : PV) : Option PV := (pEqB p q).map fun b => .bl (!b)
def pIs : PV → PV → Option PV
  | p, .non => some (.bl (match p with | .non => true | _ => false))
  | _, _ => none
def pIsNot : PV → PV → Option PV
  | p, .non => some (.bl (match p with | .non => false | _ => true))
  | _, _ => none
def pInB : PV → PV → Option Bool
  | p, .lst l => match toD p, toDs l with
    | some d, some ds => if (SeqAt.shaped d && SeqAt.shaped (.list ds)) = true then some (ds.any fun z => PyData.eqv z d) else none
    | _, _ => none
  | _, _ => none
def pIn (p q : PV) : Option PV := (pInB p q).map .bl
def pNotIn (p q : PV) : Option PV := (pInB p q).map fun b => .bl (!b)
section
variable {X : Cx} {C : Fx}
theorem eqB_at {F H : Hp} {p q : PV} {b : Bool} {x y : V} (sm : Same F H) (r1 : Rp C F x p) (r2 : Rp C F y q) (h : pEqB p q = some b) : ∃ d e, Dp C.K H x d ∧ Dp C.K H y e ∧ SeqAt.shaped d = true ∧ SeqAt.shaped e = true ∧ b = PyData.eqv d e := by
  unfold pEqB at h
  split at h
  · rename_i d e h1 h2
    split at h
    · rename_i hs
      rw [Bool.and_eq_true] at hs
      cases h
      exact ⟨d, e, dp_mono sm (dp_of r1 h1), dp_mono sm (dp_of r2 h2), hs.1, hs.2, rfl⟩
    · cases h
  · cases h
theorem d_eq {K : PySem.W.Frag} (hK : K = C.K) : OpD C (rEqD K) pEq := by
  intro F A H σ s x y p q z Q o r1 r2 e k
  unfold pEq at e
  cases h : pEqB p q with
  | none => rw [h] at e; cases e
  | some b =>
    rw [h] at e; cases e
    obtain ⟨d, e, h1, h2, h3, h4, rfl⟩ := eqB_at o.sub r1 r2 h
    rw [hK]
    exact ⟨d, e, h1, h2, h3, h4, k _ F A H o .refl (.bl _)⟩
theorem d_ne {K : PySem.W.Frag} (hK : K = C.K) : OpD C (rNeD K) pNe := by
  intro F A H σ s x y p q z Q o r1 r2 e k
  unfold pNe at e
  cases h : pEqB p q with
  | none => rw [h] at e; cases e
  | some b =>
    rw [h] at e; cases e
    obtain ⟨d, e, h1, h2, h3, h4, rfl⟩ := eqB_at o.sub r1 r2 h
    rw [hK]
    exact ⟨d, e, h1, h2, h3, h4, k _ F A H o .refl (.bl _)⟩
end
end PL
/-! PLS: sum(xs), xs a list of bools. -/
namespace PLS
open PySem PySem.Spec PyProof.Rows L2
theorem wp_ite {M : Model} {A : Around} {α : Type} {c : Prop} [Decidable c] {a b : Sem α} {Q : α → Shared → Prop} {E : Value → Shared → Prop} {s : Shared} (h1 : wpAny M A a Q E s) (h2 : wpAny M A b Q E s) : wpAny M A (if c then a else b) Q E s := by
  by_cases h : c
  · rw [if_pos h]; exact h1
  · rw [if_neg h]; exact h2
section
variable {prog : Program} {w : World} {A : Around} {R : Result → Shared → Prop} {I : Addr} {fp wr : List Addr} {n : Nat} {P : Nat → Value → Prop} {St : Nat → Heap → Prop}
theorem loopB (W : Walks prog w A.in1 I fp wr n P St) (bv : Nat → Bool) (hval : ∀ i v, P i v → v = .bool (bv i)) (S : Addr) (hSf : S ∉ fp) :
    ∀ (k i : Nat) (s : Shared) (tA : Tok) (c : Nat) (stage : Int), (stage = 0 ∨ stage = 2) → n - i = k → i ≤ n → St i s.heap → s.heap.get? S = some { cls := .type "list", dict := none, data := .seq #[.int (preSum (fun i => if bv i = true then 1 else 0) i) tA] c, slots := #[] } →
    (∀ h' tk t', (∀ b o, b ∉ wr → b ≠ S → s.heap.get? b = some o → h'.get? b = some o) → R (.ok (.ret (.int (preSum (fun i => if bv i = true then 1 else 0) n) t'))) { s with heap := h', toks := tk }) →
    codeAny (model prog w) A (.builtin "sum.loop" ⟨[.ref I, .ref S, rawInt stage, rawInt 0], []⟩) R s := by
  have hSw : S ∉ wr := fun h => hSf (W.sub _ h)
  intro k
  induction k with
  | zero =>
    intro i s tA c stage hstage hk hi hst hS hR
    have hin : i = n := by omega
    subst hin
    refine codeAny_builtin F.entry_sum_loop ?_
    rw [Around.under_plainId F.plain_sum_loop _]
    show wpAny _ A.in1 (seqItems? (.ref S) >>= _) _ _ s
    refine wpAny_bind (wpAny_seqItems hS rfl ?_)
    show wpAny _ A.in1 (tryCatch (pyNext (.ref I)) _ >>= _) _ _ s
    refine wpAny_bind (wpAny_tryCatch (W.done s _ _ hst fun h' tk hk' => ?_))
    exact wpAny_pure (hR h' tk tA fun b o hbw _ e => hk' b o hbw e)
  | succ k ih =>
    intro i s tA c stage hstage hk hi hst hS hR
    have hlt : i < n := by omega
    refine codeAny_builtin F.entry_sum_loop ?_
    rw [Around.under_plainId F.plain_sum_loop _]
    show wpAny _ A.in1 (seqItems? (.ref S) >>= _) _ _ s
    refine wpAny_bind (wpAny_seqItems hS rfl ?_)
    show wpAny _ A.in1 (tryCatch (pyNext (.ref I)) _ >>= _) _ _ s
    refine wpAny_bind (wpAny_tryCatch (W.item i s _ _ hlt hst fun v h' tk hP hst' hk' => ?_))
    have ev := hval i v hP
    subst ev
    have hS' := hk' S _ hSw hS
    rcases hstage with rfl | rfl
    · show wpAny _ A.in1 (if (_ : Bool) = true then (mkInt (preSum (fun i => if bv i = true then 1 else 0) i + (if bv i = true then 1 else 0)) >>= _) else _) _ _ _
      refine wp_ite ?_ ?_
      · refine wpAny_bind (wpAny_mkInt ?_)
        show wpAny _ A.in1 (updateSeq S (fun _ => #[.int (preSum (fun i => if bv i = true then 1 else 0) i + (if bv i = true then 1 else 0)) tk]) >>= _) _ _ _
        refine wpAny_bind ?_
        refine wpAny_updateSeq hS' rfl (wpAny_pure ⟨plainId_quiet F.plain_sum_loop _, ih (i + 1) _ tk _ 0 (Or.inl rfl) (by omega) hlt (W.frame _ _ _ hst' fun b hb o e => ?_) (Heap.get?_update_self _ hS' rfl) fun h'' tk'' t'' hk'' => ?_⟩)
        · exact (Heap.get?_update_other _ _ (fun h : S = b => hSf (by rw [h]; exact hb))).trans e
        · exact hR h'' tk'' t'' fun b o hbw hbS e => hk'' b o hbw hbS ((Heap.get?_update_other _ _ (Ne.symm hbS)).trans (hk' b o hbw e))
      · refine wpAny_bind (wpAny_rule ?_)
        refine wpAny_bind (wpAny_attempt (wpAny_holding (PySem.add_int_bool ?_)))
        show wpAny _ A.in1 (updateSeq S (fun _ => #[.int (preSum (fun i => if bv i = true then 1 else 0) i + (if bv i = true then 1 else 0)) tk]) >>= _) _ _ _
        refine wpAny_bind ?_
        refine wpAny_updateSeq hS' rfl ?_
        have hS2 := Heap.get?_update_self (Obj.mapSeq fun _ => #[Value.int (preSum (fun i => if bv i = true then 1 else 0) i + (if bv i = true then 1 else 0)) tk]) hS' rfl
        refine wpAny_bind (wpAny_letGo ?_)
        refine wpAny_bind ?_
        refine wpAny_updateSeq hS2 rfl (wpAny_pure ⟨plainId_quiet F.plain_sum_loop _, ih (i + 1) _ tk _ 2 (Or.inr rfl) (by omega) hlt (W.frame _ _ _ hst' fun b hb o e => ?_) (Heap.get?_update_self _ hS2 rfl) fun h'' tk'' t'' hk'' => ?_⟩)
        · exact (Heap.get?_update_other _ _ (fun h : S = b => hSf (by rw [h]; exact hb))).trans ((Heap.get?_update_other _ _ (fun h : S = b => hSf (by rw [h]; exact hb))).trans e)
        · exact hR h'' tk'' t'' fun b o hbw hbS e => hk'' b o hbw hbS ((Heap.get?_update_other _ _ (Ne.symm hbS)).trans ((Heap.get?_update_other _ _ (Ne.symm hbS)).trans (hk' b o hbw e)))
    · show wpAny _ A.in1 ((holding [Value.bool (bv i)] (binaryOp .Add (.int (preSum (fun i => if bv i = true then 1 else 0) i) tA) (.bool (bv i)))).attempt >>= _) _ _ _
      refine wpAny_bind (wpAny_attempt (wpAny_holding (PySem.add_int_bool ?_)))
      show wpAny _ A.in1 (updateSeq S (fun _ => #[.int (preSum (fun i => if bv i = true then 1 else 0) i + (if bv i = true then 1 else 0)) tk]) >>= _) _ _ _
      refine wpAny_bind ?_
      refine wpAny_updateSeq hS' rfl ?_
      have hS2 := Heap.get?_update_self (Obj.mapSeq fun _ => #[Value.int (preSum (fun i => if bv i = true then 1 else 0) i + (if bv i = true then 1 else 0)) tk]) hS' rfl
      refine wpAny_bind (wpAny_letGo ?_)
      refine wpAny_bind ?_
      refine wpAny_updateSeq hS2 rfl (wpAny_pure ⟨plainId_quiet F.plain_sum_loop _, ih (i + 1) _ tk _ 2 (Or.inr rfl) (by omega) hlt (W.frame _ _ _ hst' fun b hb o e => ?_) (Heap.get?_update_self _ hS2 rfl) fun h'' tk'' t'' hk'' => ?_⟩)
      · exact (Heap.get?_update_other _ _ (fun h : S = b => hSf (by rw [h]; exact hb))).trans ((Heap.get?_update_other _ _ (fun h : S = b => hSf (by rw [h]; exact hb))).trans e)
      · exact hR h'' tk'' t'' fun b o hbw hbS e => hk'' b o hbw hbS ((Heap.get?_update_other _ _ (Ne.symm hbS)).trans ((Heap.get?_update_other _ _ (Ne.symm hbS)).trans (hk' b o hbw e)))
end
section
variable {prog : Program} {w : World} {A : Around} {E : Value → Shared → Prop} {s : Shared}
theorem callB {x : Value} {Q : Value → Shared → Prop}
    (h : wpAny (model prog w) A.in1 (pyIter x) (fun it s₂ => ∃ I fp wr n P St, ∃ bv : Nat → Bool, it = .ref I ∧ Walks prog w A.in1 I fp wr n P St ∧ St 0 s₂.heap ∧ (∀ b ∈ fp, b < s₂.heap.objs.size) ∧
      (∀ i v, P i v → v = .bool (bv i)) ∧
      ∀ h' tk t', (∀ b o, b ∉ wr → s₂.heap.get? b = some o → h'.get? b = some o) → Q (.int (preSum (fun i => if bv i = true then 1 else 0) n) t') { s₂ with heap := h', toks := tk }) E s) :
    wpAny (model prog w) A (call (.builtin "sum") [x]) Q E s := by
  refine call_function_tree F.kind_sum F.plain_sum F.entry_sum (F.args_sum1 _) ?_
  unfold Builtin.«sum»
  simp only [List.length_cons, List.length_nil]
  rw [if_neg (by decide)]
  refine wpAny_bind (wpAny_of_eq (show Builtin.Builtins.bindParams "sum" ["start"] 0 { } = pure [none] from rfl) ?_)
  refine wpAny_bind (wpAny_mono h (fun it s₂ h₂ => ?_) fun _ _ e => e)
  obtain ⟨I, fp, wr, n, P, St, bv, rfl, W, hst, hfp, hval, hQ⟩ := h₂
  refine wpAny_bind (wpAny_mkInt ?_)
  refine wpAny_bind (wpAny_pure ?_)
  simp only [List.forIn_cons, List.forIn_nil]
  refine wpAny_bind (wpAny_bind (wpAny_bind (wpAny_isInstance (T := "int") (b := false) (typeIs_int _ _ _) PySem.sub_int_str ?_)))
  simp only [Bool.false_eq_true, if_false]
  refine wpAny_pure (wpAny_bind (wpAny_bind (wpAny_isInstance (T := "int") (b := false) (typeIs_int _ _ _) PySem.sub_int_bytes ?_)))
  simp only [Bool.false_eq_true, if_false]
  refine wpAny_pure (wpAny_bind (wpAny_bind (wpAny_isInstance (T := "int") (b := false) (typeIs_int _ _ _) PySem.sub_int_bytearray ?_)))
  simp only [Bool.false_eq_true, if_false]
  refine wpAny_pure (wpAny_pure ?_)
  refine wpAny_bind (wpAny_newObj_type ?_)
  have hSf : s₂.heap.objs.size ∉ fp := fun hm => Nat.lt_irrefl _ (hfp _ hm)
  refine wpAny_pure ⟨plainId_quiet F.plain_sum_loop _, loopB W bv hval s₂.heap.objs.size hSf n 0 _ s₂.toks 0 0 (Or.inl rfl) rfl (Nat.zero_le _)
    (W.frame _ _ _ hst fun b _ o e => Heap.get?_push_of_some _ e) (Heap.get?_push_size _ rfl) fun h' tk t' hk => ?_⟩
  exact hQ h' tk t' fun b o hbw e => hk b o hbw (Nat.ne_of_lt (Heap.lt_size e)) (Heap.get?_push_of_some _ e)
theorem iter_lst {l : Addr} {xs : Array Value} {Q : Value → Shared → Prop} (hl : s.heap.IsList l xs)
    (h : ∀ s₂ : Shared, s₂ = { s with heap := s.heap.push { cls := .type "list_iterator", data := .fields #[.ref l, .int 0 0] } } →
      (s₂.heap.IsListIter s.heap.objs.size l 0 ∧ s₂.heap.IsList l xs) → (∀ b ∈ [s.heap.objs.size, l], b < s₂.heap.objs.size) → l ≠ s.heap.objs.size → Q (.ref s.heap.objs.size) s₂) :
    wpAny (model prog w) A (pyIter (.ref l)) Q E s := by
  have hlt : l < s.heap.objs.size := by obtain ⟨_, e, _⟩ := hl; exact Heap.lt_size e
  refine wpAny_pyIter_list hl (h _ rfl ⟨⟨_, Heap.get?_push_size _ rfl, rfl, rfl⟩, hl.push _⟩ (fun b hb => ?_) (Nat.ne_of_lt hlt))
  show b < (s.heap.push _).objs.size
  rw [Heap.size_push]
  rcases List.mem_cons.mp hb with rfl | hb
  · exact Nat.lt_succ_self _
  · rcases List.mem_cons.mp hb with rfl | hb
    · exact Nat.lt_succ_of_lt hlt
    · cases hb
theorem preSumB : ∀ (bs : List Bool) (j : Nat), preSum (fun i => if bs.getD i false = true then 1 else 0) j = ((bs.take j).count true : Nat)
  | bs, 0 => by simp [preSum]
  | bs, j + 1 => by
    rw [preSum, preSumB bs j, List.take_add_one, List.count_append, List.getD_eq_getElem?_getD]
    cases h : bs[j]? with
    | none => simp
    | some b => cases b <;> simp
theorem sum_raw {l : Addr} {bs : List Bool} {Q : Value → Shared → Prop} (hh : A.handled = none) (hl : s.heap.IsList l (bs.map Value.bool).toArray)
    (h : ∀ h' tk t', (∀ b o, s.heap.get? b = some o → h'.get? b = some o) → Q (.int (bs.count true : Nat) t') { s with heap := h', toks := tk }) :
    wpAny (model prog w) A (call (.builtin "sum") [.ref l]) Q E s := by
  refine callB (iter_lst hl fun s₂ e st hfp hlI => ?_)
  subst e
  refine ⟨_, _, _, _, _, _, fun i => bs.getD i false, rfl, Walks.list (A := A.in1) hh _ l hlI (bs.map Value.bool).toArray, st, hfp, (fun i v hv => ?_), fun h' tk t' hk => ?_⟩
  · simp only [List.getElem?_toArray, List.getElem?_map, Option.map_eq_some_iff] at hv
    obtain ⟨b, h1, h2⟩ := hv
    rw [← h2]
    show Value.bool b = Value.bool (bs.getD i false)
    rw [List.getD_eq_getElem?_getD, h1]
    rfl
  · have := h h' tk t' (old_kept hk)
    rw [preSumB, List.take_of_length_le (by simp)]
    exact this
end
theorem vals_bools : ∀ {bs : List Bool} {us : List Value}, Vals (bs.map V.bl) us → us = bs.map Value.bool
  | [], _, .nil => rfl
  | b :: bs, _, .cons r t => by
    cases r
    rw [vals_bools t]; rfl
section
variable {X : Cx}
/-- sum(xs) of a list of ints, or of bools -/
def rSum2 (K : PySem.W.Frag) : List V → Hp → VK → Prop := fun vs H Q => rSum K vs H Q ∨ ∃ (a : Addr) (bs : List Bool), vs = [V.ref a] ∧ SqL K H a (bs.map V.bl) ∧ Q (.int (bs.count true : Nat)) H
theorem cr_sum2 (hc : X.calm = true) : CallR X (.builtin "sum") (rSum2 X.K) := by
  intro pins s σ H vs us Q I r h
  rcases h with h | ⟨a, bs, rfl, hs, q⟩
  · exact cr_sum hc pins s σ H vs us Q I r h
  · obtain ⟨its, rv, hl, _⟩ := I.list hs
    rw [Vals.ref1 r]
    have e := vals_bools rv
    subst e
    exact sum_raw (I.ok.hd hc) hl.isList fun h' tk t' hk => ⟨.int _, H, I.kept hk, ⟨_, rfl⟩, q⟩
end
end PLS
/-! PL9: subscripts, slices, objects that are changed, built-ins. -/
namespace PL
open PySem PySem.Spec PyProof.Rows L2
def getM (s : Stt) (i : Nat) : Option (MKey × MO) := match keyOf s i with
  | some k => (getK s k).map fun m => (k, m)
  | none => none
section
variable {C : Fx} {F H : Hp} {A : Nat → List Addr} {σ : L2.St} {s : Stt}
theorem mut_at (o : OkF C F A H σ s) {i : Nat} {k : MKey} {m : MO} (h : getM s i = some (k, m)) : getK s k = some m ∧ σ[i]? = some (some (.ref (adr σ C k))) ∧ MAt C F H (adr σ C k) (fpr A C k) m := by
  unfold getM at h
  cases e : keyOf s i with
  | none => rw [e] at h; cases h
  | some k' =>
    have h : (getK s k').map (fun m => (k', m)) = some (k, m) := by rw [e] at h; exact h
    cases e2 : getK s k' with
    | none => rw [e2] at h; cases h
    | some m' =>
      rw [e2] at h
      cases h
      refine ⟨e2, ?_, (key_at o e2).1⟩
      unfold keyOf at e
      split at e
      · cases e; exact (key_at o e2).2.2.1 i rfl
      · rename_i q hq
        cases e; exact (o.lent i q hq).1
      · cases e
/-- an object of the state is changed -/
theorem OkF.upd (o : OkF C F A H σ s) {k : MKey} {m m2 : MO} {H2 : Hp} (hk : getK s k = some m) (hH : ∀ b, b ∉ fpr A C k → H2 b = H b) (hN : ∀ b, b ∈ fpr A C k → H2 b ≠ none) (hM : MAt C F H2 (adr σ C k) (fpr A C k) m2) :
    OkF C F A H2 σ (setK s k m2) ∧ Step C F A H F A H2 := by
  obtain ⟨m0, hfr, hadr, hnb⟩ := key_at o hk
  have e1 : setAll s [k] [m2] = setK s k m2 := rfl
  have out : ∀ k', (∀ q, k' = MKey.inr q → q < C.nb) → k' ≠ k → ∀ b x, b ∈ fpr A C k' → H b = some x → H2 b = some x := fun k' hq ne b x hb hx => by
    rw [hH b (fun z => ne (key_dis o hq hnb hb z))]
    exact hx
  have inr_lt : ∀ (q : Nat) (m : MO), s.mu[q]? = some m → q < C.nb := fun q m e => by rw [← o.nb]; exact (List.getElem?_eq_some_iff.mp e).1
  have there : ∀ b, H b ≠ none → H2 b ≠ none := fun b hb => by
    by_cases hm : b ∈ fpr A C k
    · exact hN b hm
    · rw [hH b hm]; exact hb
  rw [← e1]
  refine ⟨⟨?_, fun b u e => ?_, fun i v e => ?_, fun i m e => ?_, ?_, fun i q e => ?_, fun q m e => ?_, fun i b hb => ?_, o.dis, o.freeB, o.disB, ⟨o.ext.1, o.ext.2.off0 fun b u t e => by rw [hH b fun z => (key_at o hk).1.nte b u z e t]; exact e⟩⟩, ⟨fun _ _ h => h, fun _ h => .inl h, fun _ h => .inl h, fun b u e _ n1 n2 => ?_, there⟩⟩
  · rw [(setAll_lens [k] [m2] s).1]; exact o.len
  · rw [hH b (fun z => by rw [(hfr b z).1] at e; cases e)]
    exact o.sub b u e
  · rcases setAll_ro [k] [m2] s rfl i _ e with ⟨j, m, h1, h2, h3⟩ | ⟨h1, h2⟩
    · cases h3
    · exact o.val i v h1
  · rcases setAll_ro [k] [m2] s rfl i _ e with ⟨j, m', h1, h2, h3⟩ | ⟨h1, h2⟩
    · cases h3
      cases j with
      | succ j => simp at h1
      | zero =>
        simp at h1 h2
        subst h1 h2
        exact ⟨_, hadr i rfl, hM⟩
    · obtain ⟨p, h3, h4⟩ := o.own i m h1
      exact ⟨p, h3, h4.keep (fun _ _ h => h) (out (.inl i) (fun q z => by cases z) (fun z => h2 (by rw [z]; exact List.mem_cons_self)))⟩
  · rw [(setAll_lens [k] [m2] s).2]; exact o.nb
  · rcases setAll_ro [k] [m2] s rfl i _ e with ⟨j, m', h1, h2, h3⟩ | ⟨h1, h2⟩
    · cases h3
    · exact o.lent i q h1
  · rcases setAll_mu [k] [m2] s rfl q _ e with ⟨j, h1, h2⟩ | ⟨h1, h2⟩
    · cases j with
      | succ j => simp at h1
      | zero =>
        simp at h1 h2
        subst h1 h2
        exact hM
    · exact (o.bor q m h1).keep (fun _ _ h => h) (out (.inr q) (fun q' z => by cases z; exact inr_lt q m h1) (fun z => h2 (by rw [z]; exact List.mem_cons_self)))
  · obtain ⟨h1, h2⟩ := o.free i b hb
    exact ⟨h1, there b h2⟩
  · rw [hH b (fun z => ?_)]
    · exact e
    · cases k with
      | inl i => exact n1 ⟨i, z⟩
      | inr q => exact n2 ⟨q, hnb q rfl, z⟩
/-- a list of the state gets new items -/
theorem OkF.updL (o : OkF C F A H σ s) {k : MKey} {l l2 : List PV} {ys : List V} (hk : getK s k = some (.lst l)) (r : Rps C F ys l2) :
    OkF C F A (L2.upd H (adr σ C k) (.lst ys)) σ (setK s k (.lst l2)) ∧ Step C F A H F A (L2.upd H (adr σ C k) (.lst ys)) := by
  obtain ⟨⟨hf, xs, hx, hr⟩, _⟩ := key_at o hk
  refine o.upd hk (fun b hb => upd_ne (fun e => hb (by rw [hf, e]; exact List.mem_cons_self))) (fun b hb => ?_) ⟨hf, ys, upd_same, r⟩
  rw [hf, List.mem_singleton] at hb
  subst hb
  rw [upd_same]; simp
end
/-! ### subscripts -/
def pIx : PV → PV → Option PV
  | .lst l, .int i => atI l i
  | .tup l, .int i => atI l i
  | .scr l, .int i => atI l i
  | .str z, .int i => if z.length ≤ 16777216 then (atI z.cps.toList i).map fun c => .str ⟨#[c]⟩ else none
  | _, _ => none
theorem Rps.atI {C : Fx} {F : Hp} {xs : List V} {l : List PV} {i : Int} {p : PV} (r : Rps C F xs l) (h : atI l i = some p) : ∃ v, L2.atI xs i = some v ∧ Rp C F v p := by
  unfold L2.atI at h ⊢
  rw [r.length]
  cases e : ixN l.length i with
  | none => rw [e] at h; cases h
  | some j =>
    rw [e] at h
    obtain ⟨v, h1, h2⟩ := r.get h
    exact ⟨v, h1, h2⟩
section
variable {X : Cx} {C : Fx} {W : WX} {a b e : Expr} {pos : Pos} {fa fb fe : Stt → Res PV}
theorem d_ix {K : PySem.W.Frag} (hK : K = C.K) : OpD C (rIx K) pIx := by
  intro F A H σ s x y p q z Q o r1 r2 e k
  unfold pIx at e
  split at e
  · cases r2
    cases r1 with
    | @lst a xs l h1 h2 =>
      obtain ⟨v, h3, h4⟩ := h2.atI e
      exact .inl ⟨a, xs, _, v, rfl, rfl, .of (o.sub _ _ h1), h3, k _ F A H o .refl h4⟩
  · cases r2
    cases r1 with
    | @tup a xs l h1 h2 =>
      obtain ⟨v, h3, h4⟩ := h2.atI e
      exact .inr (.inl ⟨a, xs, _, v, rfl, rfl, by rw [hK]; exact sqT_mono o.sub h1, h3, k _ F A H o .refl h4⟩)
  · cases r2
    cases r1 with
    | @scr a xs l h1 h2 =>
      obtain ⟨v, h3, h4⟩ := h2.atI e
      exact .inl ⟨a, xs, _, v, rfl, rfl, by rw [hK]; exact o.sub.seq h1, h3, k _ F A H o .refl h4⟩
  · split at e
    · rename_i hl
      cases r2
      cases r1
      cases h : atI (α := Nat) _ _ with
      | none => rw [h] at e; cases e
      | some c =>
        rw [h] at e; cases e
        exact .inr (.inr ⟨_, _, c, rfl, rfl, line_le hl, h, k _ F A H o .refl (.str _)⟩)
    · cases e
  · cases e
theorem dv_ix (hK : X.K = C.K) (ha : DV X C W a fa) (hb : DV X C W b fb) (hs : PlainIx b) : DV X C W (.Subscript a b pos) (eBin pIx fa fb) := by
  obtain ⟨ta, pa, qa⟩ := ha.pr
  obtain ⟨tb, pb, qb⟩ := hb.pr
  exact ⟨_, pe_ix ix_seq pa pb hs, opPost (d_ix hK) qa qb⟩
/-- an item of an object that is changed -/
def eIxM (i : Nat) (fb : Stt → Res PV) : Stt → Res PV := fun s => (getM s i).elim .stuck fun _ => (fb s).bind fun q s1 => match getM s1 i with
  | some (_, .lst l) => Res.opt s1 (pIx (.lst l) q)
  | _ => .stuck
theorem dv_ixM (i : Nat) {x : Str} {p : Pos} (hb : DV X C W b fb) (hs : PlainIx b) (hN : X.N[i]? = some x := by rfl) (hv : Vis X.env.scope x := by first | exact Or.inl rfl | exact Or.inr (Or.inl rfl) | exact Or.inr (Or.inr rfl)) (hd : (x == ("__debug__" : Str)) = false := by decide)
    (hcd : (x == ("__classdict__" : Str)) = false := by decide) : DV X C W (.Subscript (.Name x p) b pos) (eIxM i fb) := by
  obtain ⟨tb, pb, qb⟩ := hb.pr
  refine ⟨_, pe_ix ix_list (pe_var hN hv hd hcd) pb hs, fun F A H σ s Q o pp => ?_⟩
  unfold eIxM at pp
  cases e0 : getM s i with
  | none => rw [e0] at pp; exact pp.elim
  | some km =>
    rw [e0] at pp
    obtain ⟨_, h1, _⟩ := mut_at o (k := km.1) (m := km.2) e0
    refine ⟨_, h1, ?_⟩
    have pp : Post C W (RV C) F A H σ ((fb s).bind fun q s1 => match getM s1 i with
      | some (_, .lst l) => Res.opt s1 (pIx (.lst l) q)
      | _ => .stuck) Q := pp
    refine qb F A H σ s _ o (pp.seq fun q s1 v F1 A1 H1 _ o1 st1 r1 p1 => ?_)
    split at p1
    · rename_i k l e1
      obtain ⟨g1, g2, g3⟩ := mut_at o1 e1
      obtain ⟨z, e2, kk⟩ := Post.opt p1
      obtain ⟨_, xs, hx, hr⟩ := g3
      rw [h1] at g2
      have ea : adr σ C km.1 = adr σ C k := V.ref.inj (Option.some.inj (Option.some.inj g2))
      have e2' : pIx (.lst l) q = some z := e2
      unfold pIx at e2'
      split at e2'
      · rename_i l' i' ee _
        cases ee
        cases r1
        obtain ⟨u, h3, h4⟩ := hr.atI e2'
        exact ⟨_, xs, _, u, rfl, rfl, by rw [ea]; exact .of hx, h3, kk u F1 A1 H1 o1 .refl h4⟩
      · rename_i ee _; cases ee
      · rename_i ee _; cases ee
      · rename_i ee _; cases ee
      · cases e2'
    · exact p1.elim
/-- x[i] = v, x an object that is changed -/
def gSetIx (i : Nat) (fv fi : Stt → Res PV) : Stt → Fl := fun s => (fv s).fl fun p s1 => (getM s1 i).elim .stuck fun _ => (fi s1).fl fun q s2 => match q, getM s2 i with
  | .int j, some (k, .lst l) => match ixN l.length j with
    | some n => .nx (setK s2 k (.lst (l.set n p)))
    | none => .stuck
  | _, _ => .stuck
theorem ds_setIx (i : Nat) {x : Str} {p p2 : Pos} {v : Expr} {fv : Stt → Res PV} (hv : DV X C W v fv) (hb : DV X C W b fb) (hN : X.N[i]? = some x := by rfl) (hvis : Vis X.env.scope x := by first | exact Or.inl rfl | exact Or.inr (Or.inl rfl) | exact Or.inr (Or.inr rfl)) (hd : (x == ("__debug__" : Str)) = false := by decide)
    (hcd : (x == ("__classdict__" : Str)) = false := by decide) (hs : swapsWithSole [.Subscript (.Name x p) b p2] v pos.line X.env = pure false := by rfl) (hw : swappedStores [.Subscript (.Name x p) b p2] v X.env = pure none := by rfl)
    (h1 : (assignEach [.Subscript (.Name x p) b p2] X.env).map (·.2) = [assign (.Subscript (.Name x p) b p2) X.env] := by rfl) (hsub : ∀ ti, PE X b ti → PG X (.Subscript (.Name x p) b p2) (gSub (tVar i) ti rSetL) := by intro ti h; exact pg_sub (pv _) h set_list) : DS X C W (.Assign [.Subscript (.Name x p) b p2] v pos) (gSetIx i fv fb) := by
  obtain ⟨tv, pv, qv⟩ := hv.pr
  obtain ⟨tb, pb, qb⟩ := hb.pr
  refine ⟨_, ps_asg pv (hsub tb pb) hs hw h1, fun F A H σ s D o pp => ?_⟩
  refine qv F A H σ s _ o (PostS.seq pp fun pv s1 xv F1 A1 H1 _ o1 st1 r1 p1 => ?_)
  cases e0 : getM s1 i with
  | none => rw [e0] at p1; exact p1.elim
  | some km =>
    rw [e0] at p1
    obtain ⟨_, g0, _⟩ := mut_at o1 (k := km.1) (m := km.2) e0
    refine ⟨_, g0, ?_⟩
    refine qb F1 A1 H1 σ s1 _ o1 (PostS.seq p1 fun q s2 xq F2 A2 H2 _ o2 st2 r2 p2 => ?_)
    cases q with
    | int j =>
      cases e1 : getM s2 i with
      | none => simp only [e1] at p2; exact p2.elim
      | some km2 =>
        obtain ⟨k, m⟩ := km2
        simp only [e1] at p2
        cases m with
        | lst l =>
          simp only at p2
          cases e2 : ixN l.length j with
          | none => rw [e2] at p2; exact p2.elim
          | some n =>
            rw [e2] at p2
            obtain ⟨g1, g2, g3⟩ := mut_at o2 e1
            obtain ⟨_, xs, hx, hr⟩ := g3
            rw [g0] at g2
            have ea : adr σ C km.1 = adr σ C k := V.ref.inj (Option.some.inj (Option.some.inj g2))
            cases r2
            refine ⟨_, xs, j, n, rfl, rfl, by rw [ea]; exact hx, by rw [hr.length]; exact e2, ?_⟩
            rw [ea]
            obtain ⟨o3, st3⟩ := o2.updL g1 (Rps.set (r1.mono st2.s1) n hr)
            exact p2 _ _ _ _ o3 st3
        | _ => exact p2.elim
    | _ => exact p2.elim
/-! ### slices -/
def pCut (l : List PV) (lo hi : Option Int) : List PV := (l.drop (HT.sIx l.length 0 lo)).take (HT.sIx l.length l.length hi - HT.sIx l.length 0 lo)
theorem Rps.cut {F : Hp} {xs : List V} {l : List PV} (r : Rps C F xs l) (lo hi : Option Int) : Rps C F (cutV xs lo hi) (pCut l lo hi) := by
  unfold cutV pCut
  rw [r.length]
  exact (r.drop _).take _
structure DP (X : Cx) (C : Fx) (W : WX) (e : Option Expr) (f : Stt → Res (Option Int)) : Prop where
  pr : ∃ te, PO X e te ∧ ∀ F A H σ s Q, OkF C F A H σ s → Post C W (fun _ _ (a b : Option Int) => a = b) F A H σ (f s) Q → te σ H Q
def pNo : Stt → Res (Option Int) := fun s => .ok none s
def pSo (f : Stt → Res PV) : Stt → Res (Option Int) := fun s => (f s).bind fun p s1 => match p with
  | .int i => .ok (some i) s1
  | _ => .stuck
theorem dp_none : DP X C W none pNo := ⟨_, po_none, fun F A H σ s Q o p => Post.now o p rfl⟩
theorem dp_some (h : DV X C W e fe) : DP X C W (some e) (pSo fe) := by
  obtain ⟨te, pe, qe⟩ := h.pr
  refine ⟨_, po_some pe, fun F A H σ s Q o p => ?_⟩
  refine qe F A H σ s _ o (p.seq fun q s1 v F1 A1 H1 _ o1 st1 r1 p1 => ?_)
  cases r1 with
  | int i => exact ⟨i, rfl, Post.now o1 p1 rfl⟩
  | _ => exact p1.elim
end
/-! ### built-ins -/
def pAbs : List PV → Option PV
  | [.int i] => some (.int (if i < 0 then -i else i))
  | _ => none
def pMax2 : List PV → Option PV
  | [.int i, .int j] => some (.int (if j > i then j else i))
  | _ => none
def pMin2 : List PV → Option PV
  | [.int i, .int j] => some (.int (if j < i then j else i))
  | _ => none
def pLen : List PV → Option PV
  | [.lst l] => some (.int l.length)
  | [.tup l] => some (.int l.length)
  | [.scr l] => some (.int l.length)
  | [.str z] => if z.length ≤ 16777216 then some (.int z.length) else none
  | _ => none
def pInt1 : List PV → Option PV
  | [.int i] => some (.int i)
  | [.bl b] => some (.int (if b then 1 else 0))
  | _ => none
def allInt : List PV → Option (List Int)
  | [] => some []
  | .int i :: r => (allInt r).map (i :: ·)
  | _ :: _ => none
def allBl : List PV → Option (List Bool)
  | [] => some []
  | .bl i :: r => (allBl r).map (i :: ·)
  | _ :: _ => none
theorem allInt_eq : ∀ {l : List PV} {ns : List Int}, allInt l = some ns → l = ns.map PV.int
  | [], ns, h => by cases h; rfl
  | .int i :: r, ns, h => by
    unfold allInt at h
    cases e : allInt r with
    | none => rw [e] at h; cases h
    | some ms => rw [e] at h; cases h; rw [allInt_eq e]; rfl
  | .non :: _, _, h => by cases h
  | .bl _ :: _, _, h => by cases h
  | .str _ :: _, _, h => by cases h
  | .tup _ :: _, _, h => by cases h
  | .lst _ :: _, _, h => by cases h
  | .scr _ :: _, _, h => by cases h
  | .ins _ _ :: _, _, h => by cases h
  | .fnp :: _, _, h => by cases h
  | .exi _ _ :: _, _, h => by cases h
  | .dcv _ _ :: _, _, h => by cases h
theorem allBl_eq : ∀ {l : List PV} {ns : List Bool}, allBl l = some ns → l = ns.map PV.bl
  | [], ns, h => by cases h; rfl
  | .bl i :: r, ns, h => by
    unfold allBl at h
    cases e : allBl r with
    | none => rw [e] at h; cases h
    | some ms => rw [e] at h; cases h; rw [allBl_eq e]; rfl
  | .non :: _, _, h => by cases h
  | .int _ :: _, _, h => by cases h
  | .str _ :: _, _, h => by cases h
  | .tup _ :: _, _, h => by cases h
  | .lst _ :: _, _, h => by cases h
  | .scr _ :: _, _, h => by cases h
  | .ins _ _ :: _, _, h => by cases h
  | .fnp :: _, _, h => by cases h
  | .exi _ _ :: _, _, h => by cases h
  | .dcv _ _ :: _, _, h => by cases h
theorem Rps.bls {C : Fx} {F : Hp} : ∀ {vs : List V} {ns : List Bool}, Rps C F vs (ns.map PV.bl) → vs = ns.map V.bl
  | [], [], _ => rfl
  | _ :: _, n :: ns, .cons (.bl _) r => by rw [List.map_cons, Rps.bls (ns := ns) r]
def pSum : List PV → Option PV
  | [.lst l] => match allInt l with
    | some ns => some (.int ns.sum)
    | none => (allBl l).map fun bs => .int (bs.count true : Nat)
  | _ => none
def pAll : List PV → Option PV
  | [.lst l] => (allBl l).map fun ns => .bl (ns.all id)
  | _ => none
def maxI : List Int → Int
  | [] => 0
  | [x] => x
  | x :: r => max x (maxI r)
theorem maxI_mem : ∀ {l : List Int}, l ≠ [] → maxI l ∈ l ∧ ∀ y ∈ l, y ≤ maxI l
  | [], h => absurd rfl h
  | [x], _ => ⟨List.mem_cons_self, fun y hy => by rw [List.mem_singleton] at hy; subst hy; exact Int.le_refl _⟩
  | x :: y :: r, _ => by
    obtain ⟨h1, h2⟩ := maxI_mem (l := y :: r) (by simp)
    have e : maxI (x :: y :: r) = max x (maxI (y :: r)) := rfl
    rw [e]
    refine ⟨?_, fun z hz => ?_⟩
    · by_cases h : x ≤ maxI (y :: r)
      · rw [Int.max_eq_right h]; exact List.mem_cons_of_mem _ h1
      · rw [Int.max_eq_left (by omega)]; exact List.mem_cons_self
    · rcases List.mem_cons.mp hz with q | q
      · subst q; exact Int.le_max_left _ _
      · exact Int.le_trans (h2 z q) (Int.le_max_right _ _)
def pMax1 : List PV → Option PV
  | [.lst l] => match allInt l with
    | some (x :: r) => some (.int (maxI (x :: r)))
    | _ => none
  | _ => none
section
variable {X : Cx} {C : Fx}
theorem rps1 {F : Hp} {x : List V} {p : PV} (r : Rps C F x [p]) : ∃ v, x = [v] ∧ Rp C F v p := by
  cases r with
  | cons h t => cases t; exact ⟨_, rfl, h⟩
theorem rps2 {F : Hp} {x : List V} {p q : PV} (r : Rps C F x [p, q]) : ∃ v u, x = [v, u] ∧ Rp C F v p ∧ Rp C F u q := by
  cases r with
  | cons h t =>
    obtain ⟨u, rfl, hu⟩ := rps1 t
    exact ⟨_, u, rfl, h, hu⟩
theorem c_abs : CallD C (fun xs H Q => ∃ i, xs = [.int i] ∧ Q (.int (if i < 0 then -i else i)) H) pAbs := by
  intro F A H σ s x p z Q o r e k
  unfold pAbs at e
  split at e
  · cases e
    obtain ⟨v, rfl, h⟩ := rps1 r
    cases h
    exact ⟨_, rfl, k _ F A H o .refl (.int _)⟩
  · cases e
theorem c_max2 : CallD C (fun xs H Q => ∃ i j, xs = [.int i, .int j] ∧ Q (.int (if j > i then j else i)) H) pMax2 := by
  intro F A H σ s x p z Q o r e k
  unfold pMax2 at e
  split at e
  · cases e
    obtain ⟨v, u, rfl, h, h'⟩ := rps2 r
    cases h; cases h'
    exact ⟨_, _, rfl, k _ F A H o .refl (.int _)⟩
  · cases e
theorem c_min2 : CallD C (fun xs H Q => ∃ i j, xs = [.int i, .int j] ∧ Q (.int (if j < i then j else i)) H) pMin2 := by
  intro F A H σ s x p z Q o r e k
  unfold pMin2 at e
  split at e
  · cases e
    obtain ⟨v, u, rfl, h, h'⟩ := rps2 r
    cases h; cases h'
    exact ⟨_, _, rfl, k _ F A H o .refl (.int _)⟩
  · cases e
theorem c_len {K : PySem.W.Frag} (hK : K = C.K) : CallD C (fun xs H Q => ∃ x n, xs = [x] ∧ LenV K x H n ∧ Q (.int n) H) pLen := by
  intro F A H σ s x p z Q o r e k
  unfold pLen at e
  split at e
  · cases e
    obtain ⟨v, rfl, h⟩ := rps1 r
    cases h with
    | @lst a xs l h1 h2 => exact ⟨_, _, rfl, .inl ⟨xs, .of (o.sub _ _ h1), rfl⟩, by rw [h2.length]; exact k _ F A H o .refl (.int _)⟩
  · cases e
    obtain ⟨v, rfl, h⟩ := rps1 r
    cases h with
    | @tup a xs l h1 h2 => exact ⟨_, _, rfl, .inr ⟨xs, by rw [hK]; exact sqT_mono o.sub h1, rfl⟩, by rw [h2.length]; exact k _ F A H o .refl (.int _)⟩
  · cases e
    obtain ⟨v, rfl, h⟩ := rps1 r
    cases h with
    | @scr a xs l h1 h2 => exact ⟨_, _, rfl, .inl ⟨xs, by rw [hK]; exact o.sub.seq h1, rfl⟩, by rw [h2.length]; exact k _ F A H o .refl (.int _)⟩
  · split at e
    · rename_i hl
      cases e
      obtain ⟨v, rfl, h⟩ := rps1 r
      cases h
      exact ⟨_, _, rfl, ⟨line_le hl, rfl⟩, k _ F A H o .refl (.int _)⟩
    · cases e
  · cases e
theorem lst_at {K : PySem.W.Frag} {F H : Hp} {x : List V} {l : List PV} (sm : Same F H) (hK : K = C.K) (r : Rps C F x [.lst l]) : ∃ a xs, x = [.ref a] ∧ SqL K H a xs ∧ Rps C F xs l := by
  obtain ⟨v, rfl, h⟩ := rps1 r
  cases h with
  | @lst a xs l h1 h2 => exact ⟨a, xs, rfl, .of (sm _ _ h1), h2⟩
theorem c_sum {K : PySem.W.Frag} (hK : K = C.K) : CallD C (PLS.rSum2 K) pSum := by
  intro F A H σ s x p z Q o r e k
  unfold pSum at e
  split at e
  · rename_i l
    cases h : allInt l with
    | none =>
      rw [h] at e
      simp only at e
      cases h3 : allBl l with
      | none => rw [h3] at e; cases e
      | some bs =>
        rw [h3] at e; cases e
        obtain ⟨a, xs, rfl, h1, h2⟩ := lst_at o.sub hK r
        rw [allBl_eq h3] at h2
        have := h2.bls
        subst this
        exact .inr ⟨a, bs, rfl, h1, k _ F A H o .refl (.int _)⟩
    | some ns =>
      rw [h] at e; cases e
      obtain ⟨a, xs, rfl, h1, h2⟩ := lst_at o.sub hK r
      rw [allInt_eq h] at h2
      have := h2.ints
      subst this
      exact .inl ⟨a, ns, rfl, h1, k _ F A H o .refl (.int _)⟩
  · cases e
theorem c_all {K : PySem.W.Frag} (hK : K = C.K) : CallD C (rAll K) pAll := by
  intro F A H σ s x p z Q o r e k
  unfold pAll at e
  split at e
  · rename_i l
    cases h : allBl l with
    | none => rw [h] at e; cases e
    | some ns =>
      rw [h] at e; cases e
      obtain ⟨a, xs, rfl, h1, h2⟩ := lst_at o.sub hK r
      rw [allBl_eq h] at h2
      have := h2.bls
      subst this
      exact ⟨a, ns, rfl, h1, k _ F A H o .refl (.bl _)⟩
  · cases e
theorem c_max1 {K : PySem.W.Frag} (hK : K = C.K) : CallD C (rMax K) pMax1 := by
  intro F A H σ s x p z Q o r e k
  unfold pMax1 at e
  split at e
  · rename_i l
    split at e
    · rename_i y t h
      cases e
      obtain ⟨a, xs, rfl, h1, h2⟩ := lst_at o.sub hK r
      rw [allInt_eq h] at h2
      have := h2.ints
      subst this
      refine ⟨a, y :: t, rfl, h1, by simp, fun m hm hy => ?_⟩
      obtain ⟨q1, q2⟩ := maxI_mem (l := y :: t) (by simp)
      have : m = maxI (y :: t) := Int.le_antisymm (q2 m hm) (hy _ q1)
      rw [this]
      exact k _ F A H o .refl (.int _)
    · cases e
  · cases e
end
end PL
/-! PL10: more stores, repr, calls with keywords, more walks. -/
namespace PL
open PySem PySem.Spec PyProof.Rows L2
section
variable {X : Cx} {C : Fx} {W : WX} {a b e tg : Expr} {es : List Expr} {pos : Pos} {fa : Stt → Res (List PV)} {fe : Stt → Res PV}
/-- a, b = x, y -/
def gPar (i j : Nat) (fa : Stt → Res (List PV)) : Stt → Fl := fun s => (fa s).fl fun l s1 => match l with
  | [p, q] => .nx (setV j q (setV i p s1))
  | _ => .stuck
def gPar3 (i j l : Nat) (fa : Stt → Res (List PV)) : Stt → Fl := fun s => (fa s).fl fun l' s1 => match l' with
  | [p, q, r] => .nx (setV l r (setV j q (setV i p s1)))
  | _ => .stuck
theorem ds_par {i j : Nat} {x y : Str} {px py pt : Pos} {kt k2 pt2} (hc : X.calm = true) (hN : X.N.Nodup) (hi : X.N[i]? = some x) (hj : X.N[j]? = some y) (hij : i ≠ j)
    (hx : X.env.scope.names.lookup x = some .local) (hy : X.env.scope.names.lookup y = some .local) (ha : DA X C W [a, b] fa)
    (hw : swappedStores [.Tuple [.Name x px, .Name y py] kt pt] (.Tuple [a, b] k2 pt2) X.env = pure (some [x, y]))
    (hs : swapsWithSole [.Tuple [.Name x px, .Name y py] kt pt] (.Tuple [a, b] k2 pt2) pos.line X.env = pure false := by rfl) :
    DS X C W (.Assign [.Tuple [.Name x px, .Name y py] kt pt] (.Tuple [a, b] k2 pt2) pos) (gPar i j fa) := by
  obtain ⟨ta, pa, qa⟩ := ha.pr
  refine ⟨_, ps_par hc hN hi hj hij hx hy pa hw hs, fun F A H σ s D o p => ?_⟩
  refine qa F A H σ s _ o (PostS.seq p fun l s1 vs F1 A1 H1 _ o1 st1 r1 p1 => ?_)
  cases r1 with
  | nil => exact p1.elim
  | cons r r' =>
    cases r' with
    | nil => exact p1.elim
    | cons q q' =>
      cases q' with
      | cons _ _ => exact p1.elim
      | nil =>
        refine ⟨_, _, rfl, ?_⟩
        obtain ⟨o2, st2⟩ := o1.setV (i := i) r
        obtain ⟨o3, st3⟩ := o2.setV (i := j) q
        exact p1 _ _ _ _ o3 (st2.trans st3)
/-- a list unpacked into names -/
def aLst (n : Nat) (b : List PV → Stt → Option Stt) : PV → Stt → Option Stt
  | .lst l, s => if l.length = n then b l s else none
  | _, _ => none
/-- x += e, x a local name -/
def gAug (i : Nat) (f : PV → PV → Option PV) (fe : Stt → Res PV) : Stt → Fl := fun s => match s.ro[i]? with
  | some (some (.val p)) => (fe s).fl fun q s1 => match f p q with
    | some z => .nx (setV i z s1)
    | none => .stuck
  | _ => .stuck
def pAddI : PV → PV → Option PV
  | .int i, .int j => some (.int (i + j))
  | _, _ => none
end
/-! ### repr -/
/-! ### calls with keywords -/
/-- the items of a list by their places -/
def permL {α : Type} (perm : List Nat) (l : List α) : List α := perm.filterMap fun i => l[i]?
section
variable {X : Cx} {C : Fx} {W : WX} {a b c e tg : Expr} {es : List Expr} {kws : List Keyword} {pos p : Pos} {fa fk : Stt → Res (List AV)} {f : Addr} {fd : FuncData} {ps ks : List Str} {k n : Nat} {perm : List Nat} {m : List SV → List MO → FRes} {x : Str} {nm : Option Str} {kpos : Pos} {fe : Stt → Res PV}
theorem RAs.append {σ : L2.St} {F : Hp} {vs vs2 : List V} {as as2 : List AV} (r : RAs C σ F vs as) (r2 : RAs C σ F vs2 as2) : RAs C σ F (vs ++ vs2) (as ++ as2) := by
  induction r with
  | nil => exact r2
  | pv h _ ih => exact .pv h ih
  | sl h _ ih => exact .sl h ih
/-- the values of a call with keywords, in the parameters' order -/
def avK (n m : Nat) (perm : List Nat) (fa fk : Stt → Res (List AV)) : Stt → Res (List AV) := fun s => (fa s).bind fun l s1 => (fk s1).bind fun z s2 => if l.length = n ∧ z.length = m then .ok (permL perm (l ++ z)) s2 else .stuck
end
end PL
/-! PL11: walks over a list or a tuple, range with a step, enumerate, zip, list(range), slices of either. -/
namespace PL
open PySem PySem.Spec PyProof.Rows L2
section
variable {X : Cx} {C : Fx} {W : WX} {a b c e tg : Expr} {es tgs : List Expr} {pos : Pos} {fe fb : Stt → Res PV} {fa : Stt → Res (List PV)}
/-- a list or a tuple is walked -/
def iEith (K : PySem.W.Frag) (tl : TE) : TI := fun σ H R => tl σ H fun x H1 => ∃ a, x = .ref a ∧ (((∃ xs, SqL K H1 a xs) ∧ R (Itl K a) H1) ∨ ((∃ xs, SqT K H1 a xs) ∧ R (Itt K a) H1))
theorem pi_eith {tl : TE} (hl : PE X e tl) : PI X tg e (iEith X.K tl) := by
  refine ⟨?_⟩
  intro pins s σ H R I h
  refine thn (hl.run pins s σ H _ I h) ?_
  rintro v s1 ⟨x, H1, I1, r1, a, rfl, q⟩
  cases r1
  have new : H1 s1.heap.objs.size = none := I1.hok.fresh (Nat.le_refl _)
  have fp : ∀ b ∈ [s1.heap.objs.size], FpOk X pins H1 b := by
    intro b hb
    rw [List.mem_singleton] at hb
    rw [hb]
    exact I1.fpOk (Nat.le_refl _) new
  rcases q with ⟨⟨xs, hq⟩, q⟩ | ⟨⟨xs, hq⟩, q⟩
  · obtain ⟨its, _, p, _⟩ := I1.list hq
    refine wpAny_pyIter_list p.isList ⟨_, [s1.heap.objs.size], _, _, H1, rfl, I1.kept (t' := s1.toks) (fun b o => Heap.get?_push_of_some _), turn_list a _, ?_, fp, q⟩
    exact ⟨_, Heap.get?_push_size _ rfl, rfl, rfl⟩
  · obtain ⟨its, _, p, _⟩ := I1.tuple hq
    refine wpAny_pyIter_tuple (show s1.heap.IsTuple a its.toArray from p) ⟨_, [s1.heap.objs.size], _, _, H1, rfl, I1.kept (t' := s1.toks) (fun b o => Heap.get?_push_of_some _), turn_tuple a _, ?_, fp, q⟩
    exact ⟨_, Heap.get?_push_size _ rfl, rfl, rfl⟩
def iAny (fe : Stt → Res PV) : Stt → Res (List PV) := fun s => (fe s).bind fun p s1 => match p with
  | .lst l => .ok l s1
  | .tup l => .ok l s1
  | .scr l => .ok l s1
  | _ => .stuck
theorem di_any (hK : X.K = C.K) (he : DV X C W e fe) : DI X C W tg e (iAny fe) := by
  obtain ⟨te, pe, qe⟩ := he.pr
  refine ⟨_, pi_eith pe, fun F A H σ s Q o p => ?_⟩
  refine qe F A H σ s _ o (p.seq fun a s1 v F1 A1 H1 _ o1 st1 r1 p1 => ?_)
  cases r1 with
  | @lst b xs l h1 h2 =>
    have hS : ∀ H2, Same F1 H2 → SqL X.K H2 b xs := fun H2 sm => .inl (.inl (sm _ _ h1))
    have hw : Walk (Itl X.K b) l.length (fun H => SqL X.K H b xs) (YAt xs) := by rw [← h2.length]; exact walk_list
    exact ⟨b, rfl, .inl ⟨⟨xs, hS H1 o1.sub⟩, Post.now o1 p1 ⟨_, _, hw, hS, yat_ok h2⟩⟩⟩
  | @scr b xs l h1 h2 =>
    have hS : ∀ H2, Same F1 H2 → SqL X.K H2 b xs := fun H2 sm => by rw [hK]; exact sm.seq h1
    have hw : Walk (Itl X.K b) l.length (fun H => SqL X.K H b xs) (YAt xs) := by rw [← h2.length]; exact walk_list
    exact ⟨b, rfl, .inl ⟨⟨xs, hS H1 o1.sub⟩, Post.now o1 p1 ⟨_, _, hw, hS, yat_ok h2⟩⟩⟩
  | @tup b xs l h1 h2 =>
    have hS : ∀ H2, Same F1 H2 → SqT X.K H2 b xs := fun H2 sm => by rw [hK]; exact sqT_mono sm h1
    have hw : Walk (Itt X.K b) l.length (fun H => SqT X.K H b xs) (YAt xs) := by rw [← h2.length]; exact walk_tup
    exact ⟨b, rfl, .inr ⟨⟨xs, hS H1 o1.sub⟩, Post.now o1 p1 ⟨_, _, hw, hS, yat_ok h2⟩⟩⟩
  | _ => exact p1.elim
/-- range(i, j, c) -/
def rngC (i c : Int) (n : Nat) : List PV := (List.range n).map fun k : Nat => PV.int (i + k * c)
def okR3 (i j c : Int) : Bool := decide (c ≠ 0 ∧ c.natAbs < 1073741824 ∧ Builtin.Range.small i j c = true)
def iRange3 (fa : Stt → Res (List PV)) : Stt → Res (List PV) := fun s => (fa s).bind fun p s1 => match p with
  | [.int i, .int j, .int c] => if okR3 i j c = true ∧ 0 ≤ Builtin.Range.rangeSize i j c then .ok (rngC i c (Builtin.Range.rangeSize i j c).toNat) s1 else .stuck
  | _ => .stuck
def zipP (x y : List PV) : List PV := List.zipWith (fun p q => PV.tup [p, q]) x y
def enumP (x : List PV) : List PV := zipP ((List.range x.length).map fun i : Nat => PV.int i) x
theorem enumP_len (x : List PV) : (enumP x).length = x.length := by simp [enumP, zipP]
theorem enum_ok {F : Hp} {xs : List V} {l : List PV} (hr : Rps C F xs l) : ∀ i F1 A1 H1 σ s x H2 p, OkF C F1 A1 H1 σ s → Same F F1 → YPair (fun i => some (V.int (i : Nat))) (fun i => xs[i]?) i H1 x H2 → (enumP l)[i]? = some p → ∃ F2, OkF C F2 A1 H2 σ s ∧ Step C F1 A1 H1 F2 A1 H2 ∧ Rp C F2 x p := by
  rintro i F1 A1 H1 σ s x H2 p o sm ⟨T, u, v, rfl, hT, rfl, h1, h2⟩ hp
  have h1 : some (V.int (i : Nat)) = some u := h1
  cases h1
  obtain ⟨r', e4, r4⟩ := hr.getV h2
  have hi : i < l.length := (List.getElem?_eq_some_iff.mp e4).1
  have ep : p = .tup [.int i, r'] := by
    unfold enumP zipP at hp
    rw [List.getElem?_zipWith] at hp
    simp [hi] at hp
    rw [← hp, List.getElem?_eq_getElem hi] at *
    cases e4
    rfl
  subst ep
  obtain ⟨o2, st2⟩ := o.alloc (o := .tup [.int i, v]) hT
  exact ⟨_, o2, st2, .tup (.of upd_same) (.cons (.int _) (.cons (r4.mono (sm.trans st2.s1)) .nil))⟩
/-- a slice of a list, a tuple, the script -/
def eSl (fa : Stt → Res PV) (fl fh : Stt → Res (Option Int)) : Stt → Res PV := fun s => (fa s).bind fun p s1 => (fl s1).bind fun lo s2 => (fh s2).bind fun hi s3 => match p with
  | .tup l => .ok (.tup (pCut l lo hi)) s3
  | .lst l => .ok (.lst (pCut l lo hi)) s3
  | .scr l => .ok (.lst (pCut l lo hi)) s3
  | _ => .stuck
theorem dv_sl {lo hi : Option Expr} {fl fh : Stt → Res (Option Int)} {p2 : Pos} (hK : X.K = C.K) (ha : DV X C W a fe) (hl : DP X C W lo fl) (hh : DP X C W hi fh) : DV X C W (.Subscript a (.Slice lo hi none p2) pos) (eSl fe fl fh) := by
  obtain ⟨ta, pa, qa⟩ := ha.pr
  obtain ⟨tl, pl, ql⟩ := hl.pr
  obtain ⟨th, ph, qh⟩ := hh.pr
  refine ⟨_, pe_slice (sl_tupA.or sl_list) pa pl ph, fun F A H σ s Q o p => ?_⟩
  refine qa F A H σ s _ o (p.seq fun q1 s1 v1 F1 A1 H1 _ o1 st1 r1 p1 => ?_)
  refine ql F1 A1 H1 σ s1 _ o1 (p1.seq fun l2 s2 v2 F2 A2 H2 _ o2 st2 r2 p2 => ?_)
  refine qh F2 A2 H2 σ s2 _ o2 (p2.seq fun l3 s3 v3 F3 A3 H3 _ o3 st3 r3 p3 => ?_)
  have r2 : v2 = l2 := r2
  have r3 : v3 = l3 := r3
  subst r2 r3
  have rm := r1.mono (st2.s1.trans st3.s1)
  cases rm with
  | @tup b xs l h1 h2 =>
    refine .inl ⟨b, xs, rfl, by rw [hK]; exact sqT_mono o3.sub h1, fun hw => ?_, fun _ q hq => ?_⟩
    · have e : cutV xs v2 v3 = xs := by
        unfold cutV
        rw [hw.1, hw.2]
        simp
      have rc := h2.cut v2 v3
      rw [e] at rc
      exact p3 _ F3 A3 H3 o3 .refl (.tup h1 rc)
    · obtain ⟨o4, st4⟩ := o3.alloc (o := .tup (cutV xs v2 v3)) hq
      exact p3 _ _ _ _ o4 st4 (.tup (.of upd_same) ((h2.cut v2 v3).mono st4.s1))
  | @lst b xs l h1 h2 =>
    refine .inr ⟨b, xs, rfl, .of (o3.sub _ _ h1), fun q hq => ?_⟩
    obtain ⟨o4, st4⟩ := o3.alloc (o := .lst (cutV xs v2 v3)) hq
    exact p3 _ _ _ _ o4 st4 (.lst upd_same ((h2.cut v2 v3).mono st4.s1))
  | @scr b xs l h1 h2 =>
    refine .inr ⟨b, xs, rfl, by rw [hK]; exact o3.sub.seq h1, fun q hq => ?_⟩
    obtain ⟨o4, st4⟩ := o3.alloc (o := .lst (cutV xs v2 v3)) hq
    exact p3 _ _ _ _ o4 st4 (.lst upd_same ((h2.cut v2 v3).mono st4.s1))
  | _ => exact p3.elim
/-- list(range(n)), list(range(i, j)) -/
noncomputable def oRg (i j : Int) (s : Stt) : Res MO := if (inR i && inR j) = true ∧ j - i ≤ 16777216 then .ok (.lst (rng i (j - i).toNat)) s else .stuck
noncomputable def oRg1 (fa : Stt → Res PV) : Stt → Res MO := fun s => (fa s).bind fun p s1 => match p with
  | .int j => oRg 0 j s1
  | _ => .stuck
noncomputable def oRg2 (fa fb : Stt → Res PV) : Stt → Res MO := fun s => (fa s).bind fun p s1 => (fb s1).bind fun q s2 => match p, q with
  | .int i, .int j => oRg i j s2
  | _, _ => .stuck
end
end PL
/-! PL12: a list grows; a pair of a value and a new list. -/
namespace PL
open PySem PySem.Spec PyProof.Rows L2
section
variable {X : Cx} {C : Fx} {W : WX} {a b e : Expr} {pos : Pos} {fa fb fe : Stt → Res PV} {fo : Stt → Res MO}
def gParO (i j : Nat) (fa : Stt → Res PV) (fo : Stt → Res MO) : Stt → Fl := fun s => (fa s).fl fun p s1 => (fo s1).fl fun m s2 => if j < s2.ro.length then .nx (setV i p (setO j m s2)) else .stuck
def gApp (i : Nat) (fe : Stt → Res PV) : Stt → Fl := fun s => (getM s i).elim .stuck fun km => match km.2 with
  | .lst _ => (fe s).fl fun p s1 => match getM s1 i with
    | some (k, .lst l) => if l.length < 16777216 then .nx (setK s1 k (.lst (l ++ [p]))) else .stuck
    | _ => .stuck
  | _ => .stuck
theorem ds_app (i : Nat) {x : Str} {p p2 p3 : Pos} (he : DV X C W e fe) (hN : X.N[i]? = some x := by rfl) (hvis : Vis X.env.scope x := by first | exact Or.inl rfl | exact Or.inr (Or.inl rfl) | exact Or.inr (Or.inr rfl)) (hd : (x == ("__debug__" : Str)) = false := by decide)
    (hcd : (x == ("__classdict__" : Str)) = false := by decide) (hs : swapsWith (.Call (.Attribute (.Name x p) "append" p2) [e] [] p3) none pos.line X.env = pure false := by rfl)
    (hbase : attributeBase (.Name x p) "append" X.env (eval (.Name x p) X.env) = eval (.Name x p) X.env := by rfl)
    (hfew : ((backTo p3 (starEach [e] X.env)).all (fun x => !x.1) && (backToKw p3 (keywordEach [] X.env)).all (fun x => x.1.isSome)
      && decide (([e] : List Expr).length + ([] : List Keyword).length + (if ([] : List Keyword).isEmpty then 0 else 1) < 30)) = true := by rfl)
    (hline : (p2.endLine == p3.line) = true := by rfl) (hst : starEach [e] X.env = (false, eval e X.env) :: starEach [] X.env := by rfl) (hplain : (backTo p3 (starEach [] X.env)).any (·.1) = false := by rfl) :
    DS X C W (.Expr (.Call (.Attribute (.Name x p) "append" p2) [e] [] p3) pos) (gApp i fe) := by
  obtain ⟨te, pe, qe⟩ := he.pr
  refine ⟨_, ps_expr (pe_bm PySem.F.plainAttrs_list PySem.F.slot_list_append PySem.F.type_list_append mt_append (pe_var (i := i) hN hvis hd hcd) (pa_cons pe pa_nil hst) hbase hfew hline hst hplain) hs, fun F A H σ s D o pp => ?_⟩
  cases e0 : getM s i with
  | none => unfold gApp at pp; rw [e0] at pp; exact pp.elim
  | some km =>
    obtain ⟨k0, m0⟩ := km
    unfold gApp at pp
    rw [e0] at pp
    simp only [Option.elim_some] at pp
    cases m0 with
    | lst l0 =>
      simp only at pp
      obtain ⟨_, g0, ⟨_, xs0, hx0, _⟩⟩ := mut_at o e0
      refine ⟨_, g0, .inl ⟨rfl, _, SqL.of hx0⟩, ?_⟩
      refine qe F A H σ s _ o (PostS.seq pp fun pv s1 xv F1 A1 H1 _ o1 st1 r1 p1 => ?_)
      cases e1 : getM s1 i with
      | none => simp only [e1] at p1; exact p1.elim
      | some km2 =>
        obtain ⟨k, m⟩ := km2
        simp only [e1] at p1
        cases m with
        | lst l =>
          simp only at p1
          split at p1
          · rename_i hl
            obtain ⟨g1, g2, g3⟩ := mut_at o1 e1
            obtain ⟨_, xs, hx, hr⟩ := g3
            rw [g0] at g2
            have ea : adr σ C k0 = adr σ C k := V.ref.inj (Option.some.inj (Option.some.inj g2))
            refine ⟨_, xs, xv, rfl, rfl, by rw [ea]; exact hx, by rw [hr.length]; exact hl, ?_⟩
            rw [ea]
            obtain ⟨o3, st3⟩ := o1.updL g1 (Rps.append hr (.cons r1 .nil))
            exact p1 _ _ _ _ o3 st3
          · exact p1.elim
        | _ => exact p1.elim
    | _ => exact pp.elim
end
end PL
/-! PXE: an own error whose __init__ says super().__init__(value) and keeps value; its classes' classes. -/
namespace PXE
open PySem PySem.W PySem.Calls PyProof.Rows PySem.HandSPX
section
variable {prog : Program} {w : World} {A : Around} {E : Value → Shared → Prop} {R : Result → Shared → Prop} {s : Shared} {K : Frag} {mg mb : Str → Option Value} {nm : Str} {C D fI : Addr}
/-- a made error -/
structure Made (h h' : Heap) (e C d : Addr) (v : Value) : Prop where
  keep : ∀ b o, h.get? b = some o → h'.get? b = some o
  new : h.objs.size ≤ e
  obj : ∃ oe vs, h'.get? e = some oe ∧ oe.cls = .ref C ∧ oe.dict = some d ∧ oe.data = .fields vs ∧ vs[1]? = some .none
  dbig : h.objs.size ≤ d
  dne : d ≠ e
  ns : h'.Ns1 d (fun y => if y = "value" then some v else none)
end
end PXE
/-! PL13: raise E(v), E an own error. -/
namespace PL
open PySem PySem.Spec PyProof.Rows L2
theorem rel_err {v : V} {v' : Value} (r : RelV v v') (f : Str) : RelO (List.lookup f [(("value" : Str), v)]) (if f = "value" then some v' else none) := by
  by_cases hw : f = "value"
  · subst hw
    rw [if_pos rfl, show List.lookup ("value" : Str) [(("value" : Str), v)] = some v by simp [List.lookup]]
    exact r
  · rw [if_neg hw, show List.lookup f [(("value" : Str), v)] = none by simp [List.lookup, show (f == ("value" : Str)) = false by simpa using hw]]
    trivial
end PL
/-! PL14: the written part's facts of an error class. -/
namespace PXE
open PySem PySem.W PySem.Calls PyProof.Rows PySem.HandSPX
/-- where a class of the module lies -/
def clOf (K : Frag) (nm : Str) : Addr := match nsIn K mainGlobals nm with
  | some (some (.ref a)) => a
  | _ => 0
theorem clOf_at {K : Frag} {nm : Str} {C : Addr} (h : nsIn K mainGlobals nm = some (some (.ref C))) : clOf K nm = C := by
  unfold clOf
  rw [h]
end PXE
/-! PL15: tuple(x), list(x). -/
namespace PL
open PySem PySem.Spec PyProof.Rows L2
section
variable {X : Cx} {C : Fx} {W : WX} {e : Expr} {fe : Stt → Res PV} {pos : Pos}
/-- tuple(e), e a list or a tuple -/
def eTupV (fe : Stt → Res PV) : Stt → Res PV := fun s => (fe s).bind fun p s1 => match p with
  | .lst l => .ok (.tup l) s1
  | .tup l => .ok (.tup l) s1
  | _ => .stuck
theorem dv_tupV {p2 : Pos} (hK : X.K = C.K) (he : DV X C W e fe) (hg : Gl X "tuple") (hm : X.mg "tuple" = none) (h1 : starEach [e] X.env = (false, eval e X.env) :: starEach [] X.env := by rfl) (hpl : (backTo pos (starEach [] X.env)).any (·.1) = false := by rfl) :
    DV X C W (.Call (.Name "tuple" p2) [e] [] pos) (eTupV fe) := by
  obtain ⟨te, pe, qe⟩ := he.pr
  refine ⟨_, pe_callTy call_tuple_of hg hm (by first | rfl | kernel_rfl | decide +kernel) (pa_cons pe pa_nil h1) (he := h1) (hpl := hpl), fun F A H σ s Q o pp => ?_⟩
  refine qe F A H σ s _ o (pp.seq fun q1 s1 v1 F1 A1 H1 _ o1 st1 r1 p1 => ?_)
  cases r1 with
  | @lst a xs l h2 h3 =>
    refine ⟨a, xs, rfl, .inl ⟨.of (o1.sub _ _ h2), fun q hq => ?_⟩⟩
    obtain ⟨o2, st2⟩ := o1.alloc (o := .tup xs) hq
    exact p1 _ _ _ _ o2 st2 (.tup (.of L2.upd_same) (h3.mono st2.s1))
  | @tup a xs l h2 h3 =>
    refine ⟨a, xs, rfl, .inr ⟨?_, ?_⟩⟩
    · rw [hK]; exact sqT_mono o1.sub h2
    · exact p1 _ _ _ _ o1 .refl (.tup h2 h3)
  | _ => exact p1.elim
end
end PL
/-! PL16: a list of the state is given away (the name is not read again). -/
namespace PL
open PySem PySem.Spec PyProof.Rows L2
section
variable {X : Cx} {C : Fx} {W : WX} {pos : Pos}
def oMv (i : Nat) : Stt → Res MO := fun s => match s.ro[i]? with
  | some (some (.own m)) => .ok m ⟨s.ro.set i none, s.mu⟩
  | _ => .stuck
theorem OkF.mv {F H : Hp} {A : Nat → List Addr} {σ : L2.St} {s : Stt} {i : Nat} {m : MO} (o : OkF C F A H σ s) (e : s.ro[i]? = some (some (SV.own m))) :
    ∃ p, σ[i]? = some (some (.ref p)) ∧ OkF C F (dropA A i) H σ ⟨s.ro.set i none, s.mu⟩ ∧ Step C F A H F (dropA A i) H ∧ Fresh C F A H F (dropA A i) H p m := by
  obtain ⟨p, h1, h2⟩ := o.own i m e
  have sub : ∀ j b, b ∈ dropA A i j → b ∈ A j := fun j b hb => by
    unfold dropA at hb
    split at hb
    · cases hb
    · exact hb
  have get : ∀ (j : Nat) (x : SV), (s.ro.set i none)[j]? = some (some x) → j ≠ i ∧ s.ro[j]? = some (some x) := fun j x h => by
    by_cases hj : j = i
    · subst hj
      rw [List.getElem?_set_self (List.getElem?_eq_some_iff.mp e).1] at h
      cases h
    · rw [List.getElem?_set_ne (Ne.symm hj)] at h
      exact ⟨hj, h⟩
  have eqA : ∀ j, j ≠ i → dropA A i j = A j := fun j hj => by unfold dropA; rw [if_neg hj]
  refine ⟨p, h1, ⟨?_, o.sub, fun j v h => o.val j v (get j _ h).2, fun j m' h => ?_, o.nb, fun j k h => o.lent j k (get j _ h).2, o.bor, fun j b hb => o.free j b (sub j b hb), fun j k b hj hk => o.dis j k b (sub j b hj) (sub k b hk), fun k b hk hb => ⟨(o.freeB k b hk hb).1, fun j hj => (o.freeB k b hk hb).2 j (sub j b hj)⟩, o.disB, o.ext⟩,
    ⟨fun _ _ h => h, fun _ h => .inl h, fun b ⟨j, hj⟩ => .inl ⟨j, sub j b hj⟩, fun b u h _ _ _ => h, fun b h => h⟩, A i, h2, fun b hb => ⟨(o.free i b hb).1, fun ⟨j, hj⟩ => ?_, fun ⟨k, hk, hkb⟩ => (o.freeB k b hk hkb).2 i hb, .inr ⟨i, hb⟩⟩⟩
  · rw [o.len]; exact (List.length_set).symm
  · obtain ⟨hj, h⟩ := get j _ h
    rw [eqA j hj]
    exact o.own j m' h
  · have := o.dis j i b (sub j b hj) hb
    subst this
    unfold dropA at hj
    rw [if_pos rfl] at hj
    cases hj
theorem do_mv (i : Nat) {x : Str} {p : Pos} (hN : X.N[i]? = some x := by rfl) (hvis : Vis X.env.scope x := by first | exact Or.inl rfl | exact Or.inr (Or.inl rfl) | exact Or.inr (Or.inr rfl)) (hd : (x == ("__debug__" : Str)) = false := by decide)
    (hcd : (x == ("__classdict__" : Str)) = false := by decide) : DO X C W (.Name x p) (oMv i) := by
  refine ⟨_, pe_var (i := i) hN hvis hd hcd, fun F A H σ s Q o pp => ?_⟩
  unfold oMv at pp
  split at pp
  · rename_i m e
    obtain ⟨q, h1, o2, st, fr⟩ := o.mv e
    exact ⟨_, h1, pp q _ _ _ o2 st fr⟩
  · exact pp.elim
end
end PL
/-! PL17: x.extend(e). -/
namespace PL
open PySem PySem.Spec PyProof.Rows L2
section
variable {X : Cx} {C : Fx} {W : WX} {e : Expr} {pos : Pos} {fe : Stt → Res PV}
def gExt (i : Nat) (fe : Stt → Res PV) : Stt → Fl := fun s => (getM s i).elim .stuck fun km => match km.2 with
  | .lst _ => (fe s).fl fun p s1 => match p, getM s1 i with
    | .lst z, some (k, .lst l) => if l.length + z.length ≤ 16777216 then .nx (setK s1 k (.lst (l ++ z))) else .stuck
    | _, _ => .stuck
  | _ => .stuck
theorem ds_ext (i : Nat) {x : Str} {p p2 p3 : Pos} (he : DV X C W e fe) (hN : X.N[i]? = some x := by rfl) (hvis : Vis X.env.scope x := by first | exact Or.inl rfl | exact Or.inr (Or.inl rfl) | exact Or.inr (Or.inr rfl)) (hd : (x == ("__debug__" : Str)) = false := by decide)
    (hcd : (x == ("__classdict__" : Str)) = false := by decide) (hs : swapsWith (.Call (.Attribute (.Name x p) "extend" p2) [e] [] p3) none pos.line X.env = pure false := by rfl)
    (hbase : attributeBase (.Name x p) "extend" X.env (eval (.Name x p) X.env) = eval (.Name x p) X.env := by rfl)
    (hfew : ((backTo p3 (starEach [e] X.env)).all (fun x => !x.1) && (backToKw p3 (keywordEach [] X.env)).all (fun x => x.1.isSome)
      && decide (([e] : List Expr).length + ([] : List Keyword).length + (if ([] : List Keyword).isEmpty then 0 else 1) < 30)) = true := by rfl)
    (hline : (p2.endLine == p3.line) = true := by rfl) (hst : starEach [e] X.env = (false, eval e X.env) :: starEach [] X.env := by rfl) (hplain : (backTo p3 (starEach [] X.env)).any (·.1) = false := by rfl) :
    DS X C W (.Expr (.Call (.Attribute (.Name x p) "extend" p2) [e] [] p3) pos) (gExt i fe) := by
  obtain ⟨te, pe, qe⟩ := he.pr
  refine ⟨_, ps_expr (pe_bm PySem.F.plainAttrs_list PySem.F.slot_list_extend PySem.F.type_list_extend mt_extend (pe_var (i := i) hN hvis hd hcd) (pa_cons pe pa_nil hst) hbase hfew hline hst hplain) hs, fun F A H σ s D o pp => ?_⟩
  cases e0 : getM s i with
  | none => unfold gExt at pp; rw [e0] at pp; exact pp.elim
  | some km =>
    obtain ⟨k0, m0⟩ := km
    unfold gExt at pp
    rw [e0] at pp
    simp only [Option.elim_some] at pp
    cases m0 with
    | lst l0 =>
      simp only at pp
      obtain ⟨_, g0, ⟨_, xs0, hx0, _⟩⟩ := mut_at o e0
      refine ⟨_, g0, .inl ⟨rfl, _, SqL.of hx0⟩, ?_⟩
      refine qe F A H σ s _ o (PostS.seq pp fun pv s1 xv F1 A1 H1 _ o1 st1 r1 p1 => ?_)
      cases r1 with
      | @lst a ys z h2 h3 =>
        cases e1 : getM s1 i with
        | none => simp only [e1] at p1; exact p1.elim
        | some km2 =>
          obtain ⟨k, m⟩ := km2
          simp only [e1] at p1
          cases m with
          | lst l =>
            simp only at p1
            split at p1
            · rename_i hl
              obtain ⟨g1, g2, g3⟩ := mut_at o1 e1
              obtain ⟨_, xs, hx, hr⟩ := g3
              rw [g0] at g2
              have ea : adr σ C k0 = adr σ C k := V.ref.inj (Option.some.inj (Option.some.inj g2))
              refine ⟨_, a, xs, ys, rfl, rfl, by rw [ea]; exact hx, o1.sub _ _ h2, by rw [hr.length, h3.length]; exact line_le hl, ?_⟩
              rw [ea]
              obtain ⟨o3, st3⟩ := o1.updL g1 (Rps.append hr h3)
              exact p1 _ _ _ _ o3 st3
            · exact p1.elim
          | _ => exact p1.elim
      | _ => exact p1.elim
    | _ => exact pp.elim
end
end PL
/-! PL18: isinstance(e, T), T a built-in type, e a plain value. -/
namespace PL
open PySem PySem.Spec PyProof.Rows L2
end PL
/-! PL19: {"a": e, ..}[k]: a dict display with written texts for keys, read at once. -/
namespace PL
open PySem PySem.Spec PyProof.Rows L2
end PL
/-! PL20: the module's own numbers and texts. -/
namespace PL
open PySem PySem.Spec PyProof.Rows L2
section
variable {X : Cx} {C : Fx} {W : WX} {pos : Pos}
theorem dv_gint {x : Str} {n : Int} (hg : Gl X x) (h : ∃ u, X.mg x = some u ∧ RelV (.int n) u) (hd : (x == ("__debug__" : Str)) = false := by decide) : DV X C W (.Name x pos) (eC (.int n)) := by
  obtain ⟨u, h1, h2⟩ := h
  exact dv_const (pe_glob hg h1 h2 hd) fun _ => .int n
theorem dv_gstr {x y : Str} (hg : Gl X x) (h : ∃ u, X.mg x = some u ∧ RelV (.str y) u) (hd : (x == ("__debug__" : Str)) = false := by decide) : DV X C W (.Name x pos) (eC (.str y)) := by
  obtain ⟨u, h1, h2⟩ := h
  exact dv_const (pe_glob hg h1 h2 hd) fun _ => .str y
end
end PL
/-! PL21: e.f, e an instance of an own class (a plain value). -/
namespace PL
open PySem PySem.Spec PyProof.Rows L2
section
variable {X : Cx} {C : Fx} {W : WX} {e : Expr} {pos : Pos} {fe : Stt → Res PV}
def eFld (c f : Str) (fe : Stt → Res PV) : Stt → Res PV := fun s => (fe s).bind fun p s1 => match p with
  | .ins c' fs => if c' = c then Res.opt s1 (fs.lookup f) else .stuck
  | _ => .stuck
theorem rpf_look {F : Hp} {f : Str} : ∀ {fs : List (Str × V)} {l : List (Str × PV)} {p : PV}, Rpf C F fs l → l.lookup f = some p → ∃ v, fs.lookup f = some v ∧ Rp C F v p
  | _, _, _, .nil, h => by simp at h
  | (n, v) :: fs, (_, q) :: l, p, .cons r rs, h => by
    rw [List.lookup_cons] at h ⊢
    cases e : (f == n) with
    | true =>
      rw [e] at h
      cases h
      exact ⟨v, rfl, r⟩
    | false =>
      rw [e] at h
      exact rpf_look rs h
theorem dv_fld (c f : Str) (hK : X.K = C.K) (he : DV X C W e fe) (kc : Cls X.K (C.cl c)) (kn : NoAttr X.K (C.cl c) f) (hb : attributeBase e f X.env (eval e X.env) = eval e X.env := by rfl) : DV X C W (.Attribute e f pos) (eFld c f fe) := by
  obtain ⟨te, pe, qe⟩ := he.pr
  refine ⟨_, pe_fld pe hb, fun F A H σ s Q o pp => ?_⟩
  refine qe F A H σ s _ o (pp.seq fun q1 s1 v1 F1 A1 H1 _ o1 st1 r1 p1 => ?_)
  cases r1 with
  | @ins a c' dx fs l h1 h2 =>
    simp only at p1
    by_cases hc : c' = c
    · subst hc
      rw [if_pos rfl] at p1
      obtain ⟨z, ez, kz⟩ := Post.opt p1
      obtain ⟨v, h3, h4⟩ := rpf_look h2 ez
      exact ⟨a, _, dx, fs, v, rfl, o1.sub _ _ h1, kc, kn, h3, kz _ _ _ _ o1 .refl h4⟩
    · rw [if_neg hc] at p1; exact p1.elim
  | _ => exact p1.elim
end
end PL
/-! PL22: self.f = v, self.f, self an instance of the state. -/
namespace PL
open PySem PySem.Spec PyProof.Rows L2
section
variable {X : Cx} {C : Fx} {W : WX} {e : Expr} {pos : Pos} {fe : Stt → Res PV}
def putP (f : Str) (p : PV) : List (Str × PV) → List (Str × PV)
  | [] => [(f, p)]
  | (n, q) :: r => if n = f then (n, p) :: r else (n, q) :: putP f p r
theorem Rpf.put {F : Hp} {f : Str} {v : V} {p : PV} (r : Rp C F v p) : ∀ {fs : List (Str × V)} {l : List (Str × PV)}, Rpf C F fs l → Rpf C F (putF f v fs) (putP f p l)
  | _, _, .nil => .cons r .nil
  | (n, u) :: fs, (_, q) :: l, .cons h t => by
    unfold putF putP
    by_cases e : n = f
    · rw [if_pos e]
      rw [if_pos e]
      exact .cons r t
    · rw [if_neg e]
      rw [if_neg e]
      exact .cons h (Rpf.put r t)
theorem Rpf.len {F : Hp} : ∀ {fs : List (Str × V)} {l : List (Str × PV)}, Rpf C F fs l → fs.length = l.length
  | _, _, .nil => rfl
  | _, _, .cons _ t => by rw [List.length_cons, List.length_cons, Rpf.len t]
/-- an instance of the state gets new fields -/
theorem OkF.updI {F H : Hp} {A : Nat → List Addr} {σ : L2.St} {s : Stt} (o : OkF C F A H σ s) {k : MKey} {c : Str} {l l2 : List (Str × PV)} {fs2 : List (Str × V)} {dx : Addr} (hk : getK s k = some (.ins c l)) (r : Rpf C F fs2 l2) :
    OkF C F A (L2.upd H (adr σ C k) (.ins (C.cl c) dx fs2)) σ (setK s k (.ins c l2)) ∧ Step C F A H F A (L2.upd H (adr σ C k) (.ins (C.cl c) dx fs2)) := by
  obtain ⟨⟨hf, dx0, fs, hx, hr⟩, _⟩ := key_at o hk
  refine o.upd hk (fun b hb => L2.upd_ne (fun e => hb (by rw [hf, e]; exact List.mem_cons_self))) (fun b hb => ?_) ⟨hf, dx, fs2, L2.upd_same, r⟩
  rw [hf, List.mem_singleton] at hb
  subst hb
  rw [L2.upd_same]; simp
def gSetFld (i : Nat) (c f : Str) (fe : Stt → Res PV) : Stt → Fl := fun s => (fe s).fl fun p s1 => match getM s1 i with
  | some (k, .ins c' l) => if c' = c ∧ l.length < 1000 then .nx (setK s1 k (.ins c (putP f p l))) else .stuck
  | _ => .stuck
theorem ds_setFld (i : Nat) (c f : Str) {x : Str} {p p2 : Pos} {v : Expr} {fv : Stt → Res PV} (hv : DV X C W v fv) (kc : Cls X.K (C.cl c)) (kn : NoAttr X.K (C.cl c) f) (hN : X.N[i]? = some x := by rfl) (hvis : Vis X.env.scope x := by first | exact Or.inl rfl | exact Or.inr (Or.inl rfl) | exact Or.inr (Or.inr rfl)) (hd : (x == ("__debug__" : Str)) = false := by decide)
    (hcd : (x == ("__classdict__" : Str)) = false := by decide) (hs : swapsWith v (some (.Attribute (.Name x p) f p2)) pos.line X.env = pure false := by rfl) : DS X C W (.Assign [.Attribute (.Name x p) f p2] v pos) (gSetFld i c f fv) := by
  obtain ⟨tv, pv, qv⟩ := hv.pr
  refine ⟨_, ps_fld (pe_var (i := i) hN hvis hd hcd) pv hs, fun F A H σ s D o pp => ?_⟩
  refine qv F A H σ s _ o (PostS.seq pp fun q s1 xv F1 A1 H1 _ o1 st1 r1 p1 => ?_)
  cases e1 : getM s1 i with
  | none => simp only [e1] at p1; exact p1.elim
  | some km =>
    obtain ⟨k, m⟩ := km
    simp only [e1] at p1
    cases m with
    | ins c' l =>
      simp only at p1
      by_cases hc : c' = c ∧ l.length < 1000
      · rw [if_pos hc] at p1
        obtain ⟨rfl, hl⟩ := hc
        obtain ⟨g1, g2, g3⟩ := mut_at o1 e1
        obtain ⟨_, dx, fs, hx, hr⟩ := g3
        refine ⟨_, g2, _, _, dx, fs, rfl, hx, kc, kn, by rw [hr.len]; exact hl, ?_⟩
        obtain ⟨o3, st3⟩ := o1.updI (dx := dx) g1 (Rpf.put r1 hr)
        exact p1 _ _ _ _ o3 st3
      · rw [if_neg hc] at p1; exact p1.elim
    | _ => exact p1.elim
/-- self.f, self an instance of the state -/
def eFldM (i : Nat) (c f : Str) : Stt → Res PV := fun s => match getM s i with
  | some (_, .ins c' l) => if c' = c then Res.opt s (l.lookup f) else .stuck
  | _ => .stuck
end
end PL
/-! PL23: an instance is made: K(e, ..). -/
namespace PL
open PySem PySem.Spec PyProof.Rows L2
section
variable {X : Cx} {Cn : CXT} {k : Nat} {f Cc : Addr} {fd : FuncData} {ps : List Str} {sp : Sp} {dvs : List V} {ds : List Value} {E : L2.St → XK} {x : Str} {p pos : Pos} {e : Expr} {es : List Expr} {t : TA}
theorem run_mkG {pins : List (Addr × Obj)} {σ : L2.St} {H : Hp} {s : Shared} {Q : VK} {us : List Value} {vs : List V} (M : Mk X.K Cc f) (F : FnG X.prog X.w X.K X.mg X.base Cn k f fd ps sp) (room : Room (k + 1) X.A) (gu : X.A.guards = some [])
    (hb : Binds X.K fd ps ds) (hd : Vals dvs ds) (hx : PassesAt Cn X σ (E σ)) (I : Inv X pins σ H s) (rel : Vals vs us)
    (h : ∀ a dx, H a = none → H dx = none → dx ≠ a → sp (.ref a :: (vs ++ dvs)) (upd (upd H dx (.own a)) a (.ins Cc dx [])) (fun v H2 => v = .non ∧ Q (.ref a) H2) (E σ)) :
    wpAny (model X.prog X.w) X.A (call (.ref Cc) us) (EP X pins σ Q) X.xe s := by
  have q0 := h (s.heap.objs.size + 1) s.heap.objs.size (I.hok.fresh (Nat.le_succ _)) (I.hok.fresh (Nat.le_refl _)) (Nat.ne_of_lt (Nat.lt_succ_self _))
  have J := Inv.made (C := Cc) I
  have rel2 : Vals (V.ref (s.heap.objs.size + 1) :: (vs ++ dvs)) (Value.ref (s.heap.objs.size + 1) :: (us ++ ds)) := .cons rfl (rel.append hd)
  have n2 : (Value.ref (s.heap.objs.size + 1) :: us ++ ds).length = ps.length := by
    have z := rel2.length
    rw [F.gl _ _ _ _ q0] at z
    exact z.symm
  have gu2 : (X.A.under (.builtin "type.__call__" ⟨.ref Cc :: us, []⟩)).guards = some [] := by
    first | exact gu | (rw [← gu]; rfl)
  refine wpAny_call (make_map (f := f) I.kIn M.makes M.init (beq_iff_eq.mp M.fn) (codeAny_mono (F.go _ X.stack _ _ ⟨Value.ref (s.heap.objs.size + 1) :: us, []⟩ (Value.ref (s.heap.objs.size + 1) :: (us ++ ds)) _ _ (E σ) (room.make Cc us []) gu2
    (J.env0.make Cc us []) (hb _ (Value.ref (s.heap.objs.size + 1) :: us) J.kIn n2) rel2 q0) ?_))
  intro r s' z
  cases r with
  | error er => exact hx pins _ _ er s' J z
  | ok fl =>
    cases fl with
    | ret u =>
      obtain ⟨v, H', J3, rv, ev, q3⟩ := J.after z
      subst ev
      exact ⟨rv, ⟨V.ref (s.heap.objs.size + 1), H', J3, rfl, q3⟩⟩
    | next => exact False.elim z
    | brk => exact False.elim z
    | cont => exact False.elim z
def tMakeG (Cc : Addr) (sp : Sp) (dvs : List V) (E : L2.St → XK) (t : TA) : TE := fun σ H Q => t σ H fun vs H1 => ∀ a dx, H1 a = none → H1 dx = none → dx ≠ a →
  sp (.ref a :: (vs ++ dvs)) (upd (upd H1 dx (.own a)) a (.ins Cc dx [])) (fun v H2 => v = .non ∧ Q (.ref a) H2) (E σ)
theorem pe_mkG (M : Mk X.K Cc f) (F : FnG X.prog X.w X.K X.mg X.base Cn k f fd ps sp) (room : Room (k + 1) X.A) (gu : X.A.guards = some []) (hg : Gl X x) (hm : X.mg x = some (.ref Cc)) (hb : Binds X.K fd ps ds) (hd : Vals dvs ds) (hx : ∀ σ, PassesAt Cn X σ (E σ))
    (ha : PA X (e :: es) t) (hdb : (x == ("__debug__" : Str)) = false := by decide) (he : starEach (e :: es) X.env = (false, eval e X.env) :: starEach es X.env := by rfl) (hpl : (backTo pos (starEach es X.env)).any (·.1) = false := by rfl) :
    PE X (.Call (.Name x p) (e :: es) [] pos) (tMakeG Cc sp dvs E t) := by
  refine ⟨fun pins s σ H Q I h => ?_⟩
  refine wpAny_Call_Name_kw (ld_glob I hg hm ?_ hdb)
  refine PySem.W.callWith_K (h₀ := X.base) I.ok.mod.kin M.kp (thn (ha.run pos pins s σ H _ I h) fun us s1 ⟨vs, H1, I1, r, q⟩ => ⟨I1.kIn, ?_⟩) he hpl
  exact run_mkG M F room gu hb hd (hx σ) I1 r q
end
/-- where classes lie, and the tables of lambdas (T) -/
def clT (T : List (Str × Addr)) (c0 : Str → Addr) (x : Str) : Addr := if x ∈ tabNames.map tabKey then (T.lookup x).getD 0 else c0 x
theorem clT_at {T : List (Str × Addr)} {K : PySem.W.Frag} {nm : Str} {C : Addr} (h : PySem.W.nsIn K mainGlobals nm = some (some (.ref C))) (hn : decide (nm ∈ tabNames.map tabKey) = false := by decide +kernel) : clT T (PXE.clOf K) nm = C := by
  unfold clT
  rw [if_neg (of_decide_eq_false hn)]
  exact PXE.clOf_at h
theorem clT_tab {T : List (Str × Addr)} {c0 : Str → Addr} {q : Str} (h : q ∈ tabNames) : clT T c0 (tabKey q) = (T.lookup (tabKey q)).getD 0 := by
  unfold clT
  rw [if_pos (List.mem_map_of_mem h)]
theorem tabOk_0 {F H : Hp} : TabOk (fun _ => 0) F H := fun _ _ h => absurd rfl h
theorem tabOk_nil {c0 : Str → Addr} {F H : Hp} : TabOk (clT [] c0) F H := fun q hq h => absurd (clT_tab hq) h
/-- a law's promise where its error classes lie as the written part says -/
abbrev spX (K : PySem.W.Frag) (m : List SV → List MO → FRes) : Sp := spOf K (clT [] (PXE.clOf K)) 1 m
end PL
/-! PL24: len(set(xs)), xs a list of ints; divmod. -/
namespace PL
open PySem PySem.Spec PyProof.Rows L2
/-- each number once, in the order in which it comes first -/
def onceI : List Int → List Int := fun ns => ns.foldl PyProof.Rows.step_dedup []
theorem once_met (ns : List Int) : PyProof.Rows.firstMet (fun i => ns.getD i 0) ns.length = onceI ns := by
  unfold PyProof.Rows.firstMet onceI
  congr 1
  apply List.ext_getElem?
  intro i
  rw [List.getElem?_map]
  by_cases h : i < ns.length
  · rw [List.getElem?_range h, List.getElem?_eq_getElem h]
    show some (ns.getD i 0) = _
    rw [List.getD_eq_getElem?_getD, List.getElem?_eq_getElem h]; rfl
  · rw [List.getElem?_eq_none (by simpa using h), List.getElem?_eq_none (by simpa using h)]; rfl
def tLenSetG (K : PySem.W.Frag) (ta : TE) : TE := fun σ H Q => ta σ H fun x H1 => ∃ (l : Addr) (ns : List Int), x = .ref l ∧ SqL K H1 l (ns.map V.int) ∧ ns.length ≤ 4000 ∧ Q (.int ((onceI ns).length : Nat)) H1
theorem pe_lenSetG {X : Cx} {a : Expr} {ta : TE} {p p2 q pos : Pos} (hg : Gl X "len") (hm : X.mg "len" = none) (hg2 : Gl X "set") (hm2 : X.mg "set" = none) (ha : PE X a ta) (hc : X.calm = true)
    (na : starEach [a] X.env = (false, eval a X.env) :: starEach [] X.env) : PE X (.Call (.Name "len" p) [.Call (.Name "set" p2) [a] [] q] [] pos) (tLenSetG X.K ta) := by
  refine ⟨fun pins s σ H Q I h => ?_⟩
  refine Call_ (ld_blt I hg hm boot_len ?_)
  refine PyProof.Rows.callWith_builtin1 (PyProof.Rows.args_cons ?_ rfl) rfl rfl
  refine Call_ (ld_blt I hg2 hm2 boot_set ?_)
  refine PyProof.Rows.callWith_type1 (PyProof.Rows.args_cons (thn (ha.run pins s σ H _ I h) fun v s1 ⟨x, H1, I1, r1, q1⟩ => PyProof.Rows.args_nil ?_) na) na rfl
  obtain ⟨l, ns, rfl, hq, hl, q1⟩ := q1
  cases r1
  obtain ⟨its, r, pl, hz⟩ := I1.list hq
  have hlen : its.toArray.size = ns.length := by rw [List.size_toArray, ← r.length, List.length_map]
  refine call_set_list (I1.ok.hd hc) pl.isList (by simpa using RZ.intsAre_vals r) (by rw [hlen]; unfold scanBound; omega) fun h' tk hS hk => ?_
  refine PyProof.Rows.args_nil ?_
  have hle := PyProof.Rows.firstMet_length_le (fun i => ns.getD i 0) ns.length
  rw [hlen] at hS
  rw [once_met] at hS hle
  obtain ⟨o, es, ep, t, ho, hex, hd, _, _, _, hf, hn⟩ := hS
  have I2 : Inv X pins σ H1 { s1 with heap := h', toks := tk } := I1.kept fun b o e => hk b o (Heap.lt_size e) e
  exact call_len_set ho hex hd hf (by rw [hn] <;> omega) ⟨.int (onceI ns).length, H1, I2.tok _, ⟨_, by rw [hn]⟩, q1⟩
section
variable {X : Cx} {C : Fx} {W : WX} {e : Expr} {pos : Pos} {fe : Stt → Res PV}
def pLenSet : PV → Option PV
  | .lst l => match allInt l with
    | some ns => if ns.length ≤ 4000 then some (.int ((onceI ns).length : Nat)) else none
    | none => none
  | _ => none
def eLenSet (fe : Stt → Res PV) : Stt → Res PV := fun s => (fe s).bind fun p s1 => Res.opt s1 (pLenSet p)
theorem dv_lenSet {p p2 q : Pos} (hK : X.K = C.K) (hc : X.calm = true) (he : DV X C W e fe) (hg : Gl X "len") (hm : X.mg "len" = none) (hg2 : Gl X "set") (hm2 : X.mg "set" = none) (na : starEach [e] X.env = (false, eval e X.env) :: starEach [] X.env := by rfl) :
    DV X C W (.Call (.Name "len" p) [.Call (.Name "set" p2) [e] [] q] [] pos) (eLenSet fe) := by
  obtain ⟨te, pe, qe⟩ := he.pr
  refine ⟨_, pe_lenSetG hg hm hg2 hm2 pe hc na, fun F A H σ s Q o pp => ?_⟩
  refine qe F A H σ s _ o (pp.seq fun q1 s1 v1 F1 A1 H1 _ o1 st1 r1 p1 => ?_)
  cases r1 with
  | @lst a xs l h2 h3 =>
    unfold pLenSet at p1
    simp only at p1
    cases h : allInt l with
    | none => rw [h] at p1; exact p1.elim
    | some ns =>
      rw [h] at p1
      simp only at p1
      split at p1
      · rename_i hl
        rw [allInt_eq h] at h3
        have := h3.ints
        subst this
        refine ⟨a, ns, rfl, .of (o1.sub _ _ h2), hl, ?_⟩
        exact p1 _ _ _ _ o1 .refl (.int _)
      · exact p1.elim
  | _ => exact p1.elim
end
end PL
/-! PL25: def f( *v ): what is passed is one tuple. -/
namespace PL
open PySem PySem.Spec PyProof.Rows L2
theorem PostF.after {C : Fx} {F F1 H H1 : Hp} {Q : VK} {E : XK} {r : FRes} (st : Step C F noA H F1 noA H1) (p : PostF C F H Q E r) : PostF C F1 H1 Q E r := by
  cases r with
  | ok v mu => exact fun u F' H' o t rr => p u F' H' o (st.trans t) rr
  | own m mu => exact fun q F' H' o t f => p q F' H' o (st.trans t) (f.after st)
  | ex c v mu => exact fun d F' H' o t x => p d F' H' o (st.trans t) x
  | stuck => exact p
section
variable {X : Cx} {Cn : CXT} {C : Fx} {W : WX} {k : Nat} {f : Addr} {sp : Sp} {E : L2.St → XK} {x : Str} {p pos : Pos} {e : Expr} {es : List Expr} {t : TA} {m : List SV → List MO → FRes} {fa : Stt → Res (List PV)}
def eCallQ (m : List SV → List MO → FRes) (fa : Stt → Res (List PV)) : Stt → Res PV := fun s => (fa s).bind fun l s1 => if l.length ≤ 16777216 then match m [.val (.tup l)] [] with
  | .ok v _ => .ok v s1
  | .own (.lst l) _ => .ok (.lst l) s1
  | .own _ _ => .stuck
  | .ex c v _ => .ex c v s1
  | .stuck => .stuck
  else .stuck
end
end PL
/-! PL26: a list of the state is a plain value from now on. -/
namespace PL
open PySem PySem.Spec PyProof.Rows L2
section
variable {X : Cx} {C : Fx} {W : WX} {sts : List Stmt} {g : Stt → Fl}
def gFrz (i : Nat) : Stt → Fl := fun s => match s.ro[i]? with
  | some (some (.own (.lst l))) => .nx (setV i (.lst l) s)
  | _ => .stuck
theorem set_get {α : Type} {l : List α} {i : Nat} {x : α} (h : l[i]? = some x) : l.set i x = l := by
  obtain ⟨h1, h2⟩ := List.getElem?_eq_some_iff.mp h
  subst h2
  exact List.set_getElem_self h1
theorem OkF.frz {F H : Hp} {A : Nat → List Addr} {σ : L2.St} {s : Stt} {i : Nat} {l : List PV} (o : OkF C F A H σ s) (e : s.ro[i]? = some (some (SV.own (.lst l)))) :
    ∃ F' A', OkF C F' A' H σ (PL.setV i (PV.lst l) s) ∧ Step C F A H F' A' H := by
  obtain ⟨p, h1, o2, st2, fr⟩ := o.mv e
  obtain ⟨F2, o3, st3, r3⟩ := o2.freeze st2 fr
  obtain ⟨o4, st4⟩ := o3.setV (i := i) r3
  rw [set_get h1] at o4
  have es : PL.setV i (PV.lst l) ⟨s.ro.set i none, s.mu⟩ = PL.setV i (PV.lst l) s := by
    unfold PL.setV
    simp only [List.set_set]
  rw [es] at o4
  exact ⟨F2, _, o4, st3.trans st4⟩
end
end PL
/-! PL27: ranges between numbers of any size. -/
namespace PL
open PySem PySem.Spec PyProof.Rows L2
theorem turn_long {P : Program} {w : World} {K : PySem.W.Frag} {tg : Expr} (it : Addr) (lo : Int) (n : Nat) : Turn P w K tg (Itr lo n) [it] it (fun i h => IsLongIter h it (lo + (i : Nat) * 1) ((n : Int) - (i : Nat)) 1) where
  mem := by simp
  obj := fun i h st b hb => by
    have e : b = it := by simpa using hb
    subst e
    exact ⟨_, st, fun v z => by
      have z' : Data.fields _ = Data.cell v := z
      cases z'⟩
  keep := fun i h h' st k => k it (by simp) _ st
  item := by
    intro X hP hw hK hc i pins s σ H E I hf st hg
    subst hP hw hK
    obtain ⟨f0, f1, f2, f3, f4, f5⟩ := hf it (by simp)
    have W := Walks.longrange (prog := X.prog) (w := X.w) (I.ok.hd hc) it lo 1 n
    refine W.item i s _ _ hg st fun v h' tk hv st' kk => ?_
    obtain ⟨t, rfl⟩ := hv
    have I1 : Inv X pins σ H { s with heap := h', toks := tk } := I.turned (fun b o hb e => kk b o (by simpa using hb) e) f0 f1 f3 f4 f5
    refine ⟨_, rfl, go_of (s := { s with heap := h', toks := tk }) (n := "longrange_iterator") st' rfl rfl (by decide) ⟨.int (lo + i), H, I1, ⟨t, ?_⟩, ⟨rfl, rfl⟩, st', fun b hb => (hf b hb).1⟩⟩
    rw [Int.mul_one]
  done := by
    intro X hP hw hK hc i pins s σ H E I hf st hg
    subst hP hw hK
    obtain ⟨f0, f1, f2, f3, f4, f5⟩ := hf it (by simp)
    exact wpAny_pyNext_long_end (I.ok.hd hc) st (by have : n ≤ i := hg; omega) fun h' eb => ⟨rfl, I.turned (t' := s.toks) (fun b o hb e => eb b o hb e) f0 f1 f3 f4 f5⟩
  self := fun _ _ _ _ _ st h => wpAny_pyIter_longiter st h
section
variable {X : Cx} {tg : Expr}
theorem range_itW {pins : List (Addr × Obj)} {σ : L2.St} {H : Hp} {s : Shared} {R : It → Hp → Prop} {E : Value → Shared → Prop} {lo hi : Int} {t u v : Tok} {tk : Nat} (I : Inv X pins σ H s)
    (q : R (Itr lo (hi - lo).toNat) H) : wpAny (model X.prog X.w) X.A (pyIter (.ref s.heap.objs.size)) (PIE X pins σ tg R) E { s with heap := s.heap.push { cls := .type "range", data := .fields #[.int lo t, .int hi u, .int 1 v] }, toks := tk } := by
  have I1 : Inv X pins σ H { s with heap := s.heap.push { cls := .type "range", data := .fields #[.int lo t, .int hi u, .int 1 v] }, toks := tk } := I.kept fun b o e => Heap.get?_push_of_some _ e
  have e1 : lo + ((0 : Nat) : Int) * 1 = lo := by simp
  have e2 : (((hi - lo).toNat : Nat) : Int) - ((0 : Nat) : Int) = Builtin.Range.rangeSize lo hi 1 := by rw [rangeSize_one]; split <;> omega
  by_cases hs : Builtin.Range.small lo hi 1 = true
  · refine wpAny_pyIter_range (IsRange.new ..) hs ?_
    refine ⟨(s.heap.push { cls := .type "range", data := .fields #[.int lo t, .int hi u, .int 1 v] }).objs.size, [(s.heap.push { cls := .type "range", data := .fields #[.int lo t, .int hi u, .int 1 v] }).objs.size], _, _, H, rfl,
      I1.kept (t' := tk) fun b o e => Heap.get?_push_of_some _ e, turn_range _ lo (hi - lo).toNat, ?_, fun b hb => ?_, q⟩
    · show IsRangeIter _ _ (lo + ((0 : Nat) : Int) * 1) ((((hi - lo).toNat : Nat) : Int) - ((0 : Nat) : Int)) 1
      rw [e1, e2]
      exact Heap.get?_push_size _ rfl
    · have e : b = (s.heap.push { cls := .type "range", data := .fields #[.int lo t, .int hi u, .int 1 v] }).objs.size := by simpa using hb
      subst e
      exact I1.fpOk (Nat.le_refl _) (I1.hok.fresh (Nat.le_refl _))
  · refine wpAny_pyIter_longrange (IsRange.new ..) (by simpa using hs) ?_
    refine ⟨(s.heap.push { cls := .type "range", data := .fields #[.int lo t, .int hi u, .int 1 v] }).objs.size, [(s.heap.push { cls := .type "range", data := .fields #[.int lo t, .int hi u, .int 1 v] }).objs.size], _, _, H, rfl,
      I1.kept (t' := tk) fun b o e => Heap.get?_push_of_some _ e, turn_long _ lo (hi - lo).toNat, ?_, fun b hb => ?_, q⟩
    · show IsLongIter _ _ (lo + ((0 : Nat) : Int) * 1) ((((hi - lo).toNat : Nat) : Int) - ((0 : Nat) : Int)) 1
      rw [e1, e2]
      exact Heap.get?_push_size _ rfl
    · have e : b = (s.heap.push { cls := .type "range", data := .fields #[.int lo t, .int hi u, .int 1 v] }).objs.size := by simpa using hb
      subst e
      exact I1.fpOk (Nat.le_refl _) (I1.hok.fresh (Nat.le_refl _))
def iRngW1 (ta : TA) : TI := fun σ H R => ta σ H fun vs H1 => ∃ j : Int, vs = [.int j] ∧ R (Itr 0 j.toNat) H1
def iRngW2 (ta : TA) : TI := fun σ H R => ta σ H fun vs H1 => ∃ i j : Int, vs = [.int i, .int j] ∧ R (Itr i (j - i).toNat) H1
theorem pi_rangeW1 {a : Expr} {ta : TA} {p pos : Pos} (hg : Gl X "range") (hm : X.mg "range" = none) (ha : PA X [a] ta) (hs : starEach [a] X.env = [(false, eval a X.env)] := by rfl) : PI X tg (.Call (.Name "range" p) [a] [] pos) (iRngW1 ta) := by
  refine ⟨fun pins s σ H R I h => ?_⟩
  refine Call_ (ld_blt I hg hm boot_range (PyProof.Rows.callWith_type1 (thn (ha.run pos pins s σ H _ I h) fun us s1 ⟨vs, H1, I1, r1, q1⟩ => ?_) hs rfl))
  obtain ⟨j, e, q⟩ := q1
  subst e
  cases r1 with
  | cons r rr =>
    cases rr
    obtain ⟨t, rfl⟩ := r
    exact call_range_1 (range_itW (lo := 0) (hi := j) (R := R) I1 (by simpa using q))
theorem pi_rangeW2 {a b : Expr} {ta : TA} {p pos : Pos} (hg : Gl X "range") (hm : X.mg "range" = none) (ha : PA X [a, b] ta) (hs : starEach [a, b] X.env = [(false, eval a X.env), (false, eval b X.env)] := by rfl) (hs2 : starEach [b] X.env = [(false, eval b X.env)] := by rfl) :
    PI X tg (.Call (.Name "range" p) [a, b] [] pos) (iRngW2 ta) := by
  refine ⟨fun pins s σ H R I h => ?_⟩
  refine Call_ (ld_blt I hg hm boot_range (PyProof.Rows.callWith_type1 (thn (ha.run pos pins s σ H _ I h) fun us s1 ⟨vs, H1, I1, r1, q1⟩ => ?_) (by rw [hs, hs2]) (by rw [hs2]; rfl)))
  obtain ⟨i, j, e, q⟩ := q1
  subst e
  cases r1 with
  | cons r rr =>
    cases rr with
    | cons r' rr =>
      cases rr
      obtain ⟨t, rfl⟩ := r
      obtain ⟨t', rfl⟩ := r'
      exact call_range_2 (range_itW I1 q)
end
section
variable {X : Cx} {C : Fx} {W : WX} {tg : Expr} {pos : Pos} {fa : Stt → Res (List PV)}
def iRangeW1 (fa : Stt → Res (List PV)) : Stt → Res (List PV) := fun s => (fa s).bind fun p s1 => match p with
  | [.int j] => .ok (rng 0 j.toNat) s1
  | _ => .stuck
def iRangeW2 (fa : Stt → Res (List PV)) : Stt → Res (List PV) := fun s => (fa s).bind fun p s1 => match p with
  | [.int i, .int j] => .ok (rng i (j - i).toNat) s1
  | _ => .stuck
theorem di_rangeW1 {a : Expr} {p : Pos} (hg : Gl X "range") (hm : X.mg "range" = none) (ha : DA X C W [a] fa) (hs : starEach [a] X.env = [(false, eval a X.env)] := by rfl) : DI X C W tg (.Call (.Name "range" p) [a] [] pos) (iRangeW1 fa) := by
  obtain ⟨te, pe, qe⟩ := ha.pr
  refine ⟨_, pi_rangeW1 hg hm pe hs, fun F A H σ s Q o p => ?_⟩
  refine qe F A H σ s _ o (p.seq fun a s1 v F1 A1 H1 _ o1 st1 r1 p1 => ?_)
  cases r1 with
  | nil => exact p1.elim
  | cons r r' =>
    cases r' with
    | cons _ _ => cases r <;> exact p1.elim
    | nil =>
      cases r with
      | int j =>
        simp only at p1
        refine ⟨j, rfl, Post.now o1 p1 ?_⟩
        refine ⟨_, _, ?_, fun _ _ => trivial, rng_ok 0 j.toNat⟩
        rw [rng_length]
        exact walk_range
      | _ => exact p1.elim
theorem di_rangeW2 {a b : Expr} {p : Pos} (hg : Gl X "range") (hm : X.mg "range" = none) (ha : DA X C W [a, b] fa) (hs : starEach [a, b] X.env = [(false, eval a X.env), (false, eval b X.env)] := by rfl) (hs2 : starEach [b] X.env = [(false, eval b X.env)] := by rfl) : DI X C W tg (.Call (.Name "range" p) [a, b] [] pos) (iRangeW2 fa) := by
  obtain ⟨te, pe, qe⟩ := ha.pr
  refine ⟨_, pi_rangeW2 hg hm pe hs hs2, fun F A H σ s Q o p => ?_⟩
  refine qe F A H σ s _ o (p.seq fun a s1 v F1 A1 H1 _ o1 st1 r1 p1 => ?_)
  cases r1 with
  | nil => exact p1.elim
  | cons r r' =>
    cases r' with
    | nil => cases r <;> exact p1.elim
    | cons r2 r3 =>
      cases r3 with
      | cons _ _ => cases r <;> cases r2 <;> exact p1.elim
      | nil =>
        cases r with
        | int i =>
          cases r2 with
          | int j =>
            simp only at p1
            refine ⟨i, j, rfl, Post.now o1 p1 ?_⟩
            refine ⟨_, _, ?_, fun _ _ => trivial, rng_ok i (j - i).toNat⟩
            rw [rng_length]
            exact walk_range
          | _ => exact p1.elim
        | _ => cases r2 <;> exact p1.elim
end
end PL
/-! PL28: tables of the module: D[k], D.get(k), k a key of D. -/
namespace PL
open PySem PySem.Spec PyProof.Rows L2
/-- a written value and what it stands for -/
inductive KvV (K : PySem.W.Frag) : Value → PV → Prop
  | int (i : Int) (t : Tok) : KvV K (.int i t) (.int i)
  | str (x : Str) (t : Tok) : KvV K (.str x t) (.str x)
  | nums {a : Addr} {o : Obj} {its : Array Value} {n : Nat} {ns : List Int} : K.lookup a = some o → o.cls = .type "tuple" → o.data = .seq its n → its.size ≤ sizeLine → Vals (ns.map V.int) its.toList → KvV K (.ref a) (.tup (ns.map PV.int))
theorem KvV.rp {K : PySem.W.Frag} {u : Value} {p : PV} (h : KvV K u p) : ∃ v, RelV v u ∧ ∀ (C : Fx) (F : Hp), C.K = K → Rp C F v p := by
  cases h with
  | int i t => exact ⟨.int i, ⟨t, rfl⟩, fun _ _ _ => .int i⟩
  | str x t => exact ⟨.str x, ⟨t, rfl⟩, fun _ _ _ => .str x⟩
  | @nums a o its n ns h1 h2 h3 h4 h5 => exact ⟨.ref a, rfl, fun C F e => .tup (.inr ⟨o, its, n, by rw [e]; exact h1, h2, h3, h4, h5⟩) (Rps.of_ints ns)⟩
structure DctT (w : World) (K : PySem.W.Frag) (mg : Str → Option Value) (x : Str) (tbl : List (Str × PV)) : Prop where
  ex : ∃ p es n, mg x = some (.ref p) ∧ KDict K w p es n ∧ ∀ k pv, tbl.lookup k = some pv → ∃ u, PySem.W.nsIn K p k = some (some u) ∧ KvV K u pv
section
variable {X : Cx} {C : Fx} {W : WX} {e : Expr} {pos : Pos} {fe : Stt → Res PV}
def eDct (tbl : List (Str × PV)) (fe : Stt → Res PV) : Stt → Res PV := fun s => (fe s).bind fun p s1 => match p with
  | .str k => Res.opt s1 (tbl.lookup k)
  | _ => .stuck
theorem dv_dct {tbl : List (Str × PV)} {x : Str} {p : Pos} (hK : X.K = C.K) (D : DctT X.w X.K X.mg x tbl) (he : DV X C W e fe) (hs : PlainIx e) (hg : Gl X x := by rfl) (hd : (x == ("__debug__" : Str)) = false := by decide) :
    DV X C W (.Subscript (.Name x p) e pos) (eDct tbl fe) := by
  obtain ⟨q, es, n, hm, hk, hv⟩ := D.ex
  obtain ⟨te, pe, qe⟩ := he.pr
  refine ⟨_, pe_ix ix_kdict (pe_glob (v := .ref q) hg hm rfl hd) pe hs, fun F A H σ s Q o pp => ?_⟩
  refine qe F A H σ s _ o (pp.seq fun q1 s1 v1 F1 A1 H1 _ o1 st1 r1 p1 => ?_)
  cases r1 with
  | str k =>
    obtain ⟨pv, h1, h2⟩ := Post.opt p1
    obtain ⟨u, h3, h4⟩ := hv k pv h1
    obtain ⟨v, h5, h6⟩ := h4.rp
    exact ⟨q, k, v, rfl, rfl, ⟨es, n, u, hk.at_, hk.lit, h3, h5⟩, h2 _ _ _ _ o1 .refl (h6 C F1 hK.symm)⟩
  | _ => exact p1.elim
def tKGet (K : PySem.W.Frag) (q : Addr) (ty : TE) : TE := fun σ H Q => ty σ H fun y H2 => ∃ (z : Str) (v : V) (u : Value), y = .str z ∧ PySem.W.nsIn K q z = some (some u) ∧ RelV v u ∧ Q v H2
theorem pe_kget {x : Str} {p apos cpos : Pos} {ty : TE} {q : Addr} {es : Array DictEntry} {n : Nat} (hk : KDict X.K X.w q es n) (hg : Gl X x) (hm : X.mg x = some (.ref q)) (hd : (x == ("__debug__" : Str)) = false) (he : PE X e ty) (m : M1 X (.Name x p) "get" apos e cpos) :
    PE X (.Call (.Attribute (.Name x p) "get" apos) [e] [] cpos) (tKGet X.K q ty) := by
  refine ⟨fun pins s σ H Q I h => ?_⟩
  refine wpAny_Call_method m.base m.few m.line PySem.F.plainAttrs_dict PySem.F.slot_dict_get PySem.F.type_dict_get (thn ((pe_glob (pos := p) (v := .ref q) hg hm rfl hd).run pins s σ H (fun v H1 => v = .ref q ∧ tKGet X.K q ty σ H1 Q) I ⟨rfl, h⟩) fun u s1 ⟨x0, H1, I1, rx, ex, q1⟩ => ?_)
  subst ex
  obtain rfl : u = Value.ref q := rx
  have hm0 := PySem.W.mapOf_K (prog := X.prog) (w := X.w) I1.kIn hk.at_ hk.lit
  refine ⟨hm0.typeIs, fun b z => ?_, ?_⟩
  · cases z
    exact ⟨_, I1.kIn _ _ hk.at_, rfl⟩
  · rw [m.trees]
    refine Calls.callWith_builtin rfl (Calls.evalArgs_plain (Calls.spliced_cons (thn (he.run pins s1 σ H1 _ I1 q1) fun iv s2 ⟨y, H2, I2, ry, z, v, u, ey, hn, ru, q2⟩ => Calls.spliced_nil ?_)))
    subst ey
    obtain ⟨t, rfl⟩ := ry
    have hm2 := PySem.W.mapOf_K (prog := X.prog) (w := X.w) I2.kIn hk.at_ hk.lit
    refine call_meetsIn PySem.F.slot_dict_get hm2.typeIs PySem.F.entry_dict_get (PySem.F.args_dict_get_2 _ _) (meets_dict_get (strKind X.prog X.w) q (strKind_is X.prog X.w z t) hk.low) ⟨_, hm2, ?_⟩
    rw [PySem.W.find_K hk.at_ hn]
    exact ⟨v, H2, I2.tok _, ru, q2⟩
theorem dv_dget {tbl : List (Str × PV)} {x : Str} {p apos cpos : Pos} (hK : X.K = C.K) (D : DctT X.w X.K X.mg x tbl) (he : DV X C W e fe) (m : M1 X (.Name x p) "get" apos e cpos) (hg : Gl X x := by rfl) (hd : (x == ("__debug__" : Str)) = false := by decide) :
    DV X C W (.Call (.Attribute (.Name x p) "get" apos) [e] [] cpos) (eDct tbl fe) := by
  obtain ⟨q, es, n, hm, hk, hv⟩ := D.ex
  obtain ⟨te, pe, qe⟩ := he.pr
  refine ⟨_, pe_kget hk hg hm hd pe m, fun F A H σ s Q o pp => ?_⟩
  refine qe F A H σ s _ o (pp.seq fun q1 s1 v1 F1 A1 H1 _ o1 st1 r1 p1 => ?_)
  cases r1 with
  | str k =>
    obtain ⟨pv, h1, h2⟩ := Post.opt p1
    obtain ⟨u, h3, h4⟩ := hv k pv h1
    obtain ⟨v, h5, h6⟩ := h4.rp
    exact ⟨k, v, u, rfl, h3, h5, h2 _ _ _ _ o1 .refl (h6 C F1 hK.symm)⟩
  | _ => exact p1.elim
end
end PL
/-! PL29: texts walked sign by sign; a sign in a text. -/
namespace PL
open PySem PySem.Spec PyProof.Rows L2
section
variable {X : Cx} {C : Fx} {W : WX} {e tg : Expr} {fe : Stt → Res PV}
def signs (z : Str) : List PV := z.cps.toList.map fun c => PV.str ⟨#[c]⟩
def iTxt (fe : Stt → Res PV) : Stt → Res (List PV) := fun s => (fe s).bind fun p s1 => match p with
  | .str z => .ok (signs z) s1
  | _ => .stuck
theorem di_txt (he : DV X C W e fe) : DI X C W tg e (iTxt fe) := by
  obtain ⟨te, pe, qe⟩ := he.pr
  refine ⟨_, pi_str pe, fun F A H σ s Q o p => ?_⟩
  refine qe F A H σ s _ o (p.seq fun a s1 v F1 A1 H1 _ o1 st1 r1 p1 => ?_)
  cases r1 with
  | str z =>
    simp only at p1
    refine ⟨z, rfl, Post.now o1 p1 ?_⟩
    have hl : (signs z).length = z.cps.size := by unfold signs; simp
    refine ⟨_, _, by rw [hl]; exact walk_str, fun _ _ => trivial, ?_⟩
    rintro i F2 A2 H2 σ2 s2 x H3 p o2 sm ⟨rfl, c, hc, rfl⟩ hp
    refine ⟨F2, o2, .refl, ?_⟩
    unfold signs at hp
    rw [List.getElem?_map] at hp
    rw [Array.getElem?_toList, hc] at hp
    cases hp
    exact .str _
  | _ => exact p1.elim
def pInSg : PV → PV → Option PV
  | .str z, .str y => match z.cps.toList with
    | [c] => some (.bl (decide (c ∈ y.cps.toList)))
    | _ => none
  | _, _ => none
theorem one_sign {z : Str} {c : Nat} (h : z.cps.toList = [c]) : z = ⟨#[c]⟩ := by
  cases z with
  | mk a =>
    cases a with
    | mk l =>
      have h' : l = [c] := h
      subst h'
      rfl
theorem d_inSg : OpD C (fun x y H Q => ∃ (c : Nat) (z : Str), x = .str ⟨#[c]⟩ ∧ y = .str z ∧ Q (.bl (decide (c ∈ z.cps.toList))) H) pInSg := by
  intro F A H σ s x y p q z Q o r1 r2 e k
  unfold pInSg at e
  split at e
  · rename_i z' y'
    cases r1; cases r2
    split at e
    · rename_i c hc
      cases e
      exact ⟨c, y', by rw [one_sign hc], rfl, k _ F A H o .refl (.bl _)⟩
    · cases e
  · cases e
end
end PL
/-! PL30: K(e, ..): an instance made, a plain value from then on. -/
namespace PL
open PySem PySem.Spec PyProof.Rows L2
/-- a fresh instance is a plain value from now on -/
theorem OkF.freezeI {C : Fx} {F F' H H' : Hp} {A A' : Nat → List Addr} {σ : L2.St} {s : Stt} {p : Addr} {c : Str} {l : List (Str × PV)} (o : OkF C F' A' H' σ s) (st : Step C F A H F' A' H') (f : Fresh C F A H F' A' H' p (.ins c l)) :
    ∃ F2, OkF C F2 A' H' σ s ∧ Step C F A H F2 A' H' ∧ Rp C F2 (.ref p) (.ins c l) := by
  obtain ⟨fp, ⟨rfl, dx, xs, hx, hr⟩, hf⟩ := f
  obtain ⟨k1, k2, k3, k4⟩ := hf p List.mem_cons_self
  have sF : Same F' (L2.upd F' p (.ins (C.cl c) dx xs)) := fun b u e => by rw [L2.upd_ne (ne_of_none e k1)]; exact e
  refine ⟨L2.upd F' p (.ins (C.cl c) dx xs), ⟨o.len, fun b u e => ?_, fun i v e => ?_, fun i m e => ?_, o.nb, o.lent, fun q m e => ?_, fun i b hb => ?_, o.dis, fun q b hq hb => ?_, o.disB, ⟨o.ext.1.trans sF, o.ext.2.off sF (fun b ps e h => by rw [L2.upd_ne (fun z => by rw [z, hx] at e; cases e)]; exact h) fun _ _ _ h => h⟩⟩, ⟨st.s1.trans sF, fun b hb => ?_, st.s3, st.s4, st.s5⟩, .ins L2.upd_same (hr.mono sF)⟩
  · by_cases hb : b = p
    · subst hb; rw [L2.upd_same] at e; cases e; exact hx
    · rw [L2.upd_ne hb] at e; exact o.sub b u e
  · obtain ⟨u, h1, h2⟩ := o.val i v e
    exact ⟨u, h1, h2.mono sF⟩
  · obtain ⟨q, h1, h2⟩ := o.own i m e
    exact ⟨q, h1, h2.keep sF fun b x _ h => h⟩
  · exact (o.bor q m e).keep sF fun b x _ h => h
  · obtain ⟨h1, h2⟩ := o.free i b hb
    have hne : b ≠ p := fun z => k2 ⟨i, z ▸ hb⟩
    exact ⟨by rw [L2.upd_ne hne]; exact h1, h2⟩
  · obtain ⟨h1, h2⟩ := o.freeB q b hq hb
    have hne : b ≠ p := fun z => k3 ⟨q, hq, z ▸ hb⟩
    exact ⟨by rw [L2.upd_ne hne]; exact h1, h2⟩
  · by_cases hbp : b = p
    · subst hbp
      rcases k4 with z | z
      · exact .inr (.inl z)
      · exact .inr (.inr z)
    · rw [L2.upd_ne hbp] at hb; exact st.s2 b hb
def mkC (C : Fx) (a : Addr) : Fx := ⟨C.K, C.cl, 1, fun _ => a, fun _ => [a], C.fa, C.F0⟩
section
variable {C : Fx} {F H : Hp} {A : Nat → List Addr} {σ : L2.St} {s : Stt} {a dx : Addr} {c : Str}
theorem make_in (o : OkF C F A H σ s) (ha : H a = none) (hd : H dx = none) (hne : dx ≠ a) :
    OkF (mkC C a) F noA (L2.upd (L2.upd H dx (.own a)) a (.ins (C.cl c) dx [])) [] ⟨[], [.ins c []]⟩ := by
  refine ⟨rfl, fun b u e => ?_, fun i v e => by simp at e, fun i m e => by simp at e, rfl, fun i k e => by simp at e, fun k m e => ?_, fun i b h => absurd h (by simp [noA]), fun i j b h _ => absurd h (by simp [noA]), fun k b hk hb => ?_, fun k j b hk hj _ _ => ?_, ⟨o.ext.1, o.ext.2.ext0 fun b x hb => ?_⟩⟩
  · have hb := o.sub b u e
    have n1 : b ≠ a := fun z => by rw [z, ha] at hb; cases hb
    have n2 : b ≠ dx := fun z => by rw [z, hd] at hb; cases hb
    rw [L2.upd_ne n1, L2.upd_ne n2]
    exact hb
  · cases k with
    | zero =>
      have em : MO.ins c [] = m := by simpa using e
      subst em
      exact ⟨rfl, dx, [], L2.upd_same, .nil⟩
    | succ k => simp at e
  · have hb' : b ∈ [a] := hb
    rw [List.mem_singleton] at hb'
    subst hb'
    exact ⟨o.sub.free ha, fun i => by simp [noA]⟩
  · have h1 : k < 1 := hk
    have h2 : j < 1 := hj
    omega
  · have n1 : b ≠ a := fun z => by rw [z, ha] at hb; cases hb
    have n2 : b ≠ dx := fun z => by rw [z, hd] at hb; cases hb
    rw [L2.upd_ne n1, L2.upd_ne n2]
    exact hb
theorem make_out (o : OkF C F A H σ s) (ha : H a = none) (hd : H dx = none) (hne : dx ≠ a) {F' H' : Hp} {ms : List MO} (o' : OkF (mkC C a) F' noA H' [] ⟨[], ms⟩)
    (st : Step (mkC C a) F noA (L2.upd (L2.upd H dx (.own a)) a (.ins (C.cl c) dx [])) F' noA H') : OkF C F' A H' σ s ∧ Step C F A H F' A H' := by
  have in1 : ∀ b x, H b = some x → L2.upd (L2.upd H dx (.own a)) a (.ins (C.cl c) dx []) b = some x := fun b x hb => by
    have n1 : b ≠ a := fun z => by rw [z, ha] at hb; cases hb
    have n2 : b ≠ dx := fun z => by rw [z, hd] at hb; cases hb
    rw [L2.upd_ne n1, L2.upd_ne n2]
    exact hb
  have keep : ∀ b x, H b = some x → (∀ ps, x ≠ .tbl ps) → H' b = some x := fun b x hb nt => by
    refine st.s4 b x (in1 b x hb) nt (fun ⟨i, z⟩ => absurd z (by simp [noA])) ?_
    rintro ⟨k, _, hk⟩
    have hb' : b ∈ [a] := hk
    rw [List.mem_singleton] at hb'
    rw [hb', ha] at hb
    cases hb
  have there : ∀ b, H b ≠ none → H' b ≠ none := fun b hb => by
    cases e : H b with
    | none => exact absurd e hb
    | some x => exact st.s5 b (by rw [in1 b x e]; simp)
  have plain : ∀ b, F b = none → H b ≠ none → F' b = none := fun b h1 h2 => by
    cases e : F' b with
    | none => rfl
    | some x =>
      exfalso
      rcases st.s2 b (by rw [e]; simp) with z | z | ⟨i, z⟩
      · exact z h1
      · cases e2 : H b with
        | none => exact h2 e2
        | some y => rw [in1 b y e2] at z; cases z
      · exact absurd z (by simp [noA])
  refine ⟨⟨o.len, o'.sub, fun i v e => ?_, fun i m e => ?_, o.nb, o.lent, fun k m e => (o.bor k m e).keepT st.s1 fun b x _ t h => keep b x h (Tbx.tbl t), fun i b hb => ?_, o.dis, fun k b hk hb => ?_, o.disB, ⟨o.ext.1.trans st.s1, o'.ext.2⟩⟩, ⟨st.s1, fun b hb => ?_, fun b hb => .inl hb, fun b x hx nt _ _ => keep b x hx nt, there⟩⟩
  · obtain ⟨u, h1, h2⟩ := o.val i v e
    exact ⟨u, h1, h2.mono st.s1⟩
  · obtain ⟨p, h1, h2⟩ := o.own i m e
    exact ⟨p, h1, h2.keepT st.s1 fun b x _ t h => keep b x h (Tbx.tbl t)⟩
  · obtain ⟨h1, h2⟩ := o.free i b hb
    exact ⟨plain b h1 h2, there b h2⟩
  · have hm : k < s.mu.length := by rw [o.nb]; exact hk
    have ht := (o.bor k s.mu[k] (List.getElem?_eq_getElem hm)).there b hb
    exact ⟨plain b (o.freeB k b hk hb).1 ht, (o.freeB k b hk hb).2⟩
  · rcases st.s2 b hb with z | z | ⟨i, z⟩
    · exact .inl z
    · refine .inr (.inl ?_)
      cases e : H b with
      | none => rfl
      | some x => rw [in1 b x e] at z; cases z
    · exact absurd z (by simp [noA])
theorem make_frz (o : OkF C F A H σ s) (ha : H a = none) (hd : H dx = none) (hne : dx ≠ a) {F' H' : Hp} {fs : List (Str × PV)} (o' : OkF (mkC C a) F' noA H' [] ⟨[], [.ins c fs]⟩)
    (st : Step (mkC C a) F noA (L2.upd (L2.upd H dx (.own a)) a (.ins (C.cl c) dx [])) F' noA H') : ∃ F2, OkF C F2 A H' σ s ∧ Step C F A H F2 A H' ∧ Rp C F2 (.ref a) (.ins c fs) := by
  obtain ⟨o2, st2⟩ := make_out o ha hd hne o' st
  have hb : MAt (mkC C a) F' H' a [a] (.ins c fs) := o'.bor 0 (.ins c fs) rfl
  refine o2.freezeI st2 ⟨[a], hb.cg (by rfl) (by rfl), fun b hb2 => ?_⟩
  rw [List.mem_singleton] at hb2
  subst hb2
  refine ⟨(o'.freeB 0 b (by show 0 < 1; omega) (by show b ∈ [b]; simp)).1, fun ⟨i, z⟩ => (o.free i b z).2 ha, fun ⟨k, hk, z⟩ => ?_, .inl ha⟩
  have hm : k < s.mu.length := by rw [o.nb]; exact hk
  exact (o.bor k s.mu[k] (List.getElem?_eq_getElem hm)).there b z ha
end
theorem RpA.vals {C : Fx} {F : Hp} {vs : List V} {l : List PV} (h : Rps C F vs l) : RpA C F vs (l.map SV.val) := by
  induction l generalizing vs with
  | nil => cases h; exact .nil
  | cons p r ih =>
    cases h with
    | cons h1 h2 => exact .val h1 (ih h2)
section
variable {X : Cx} {C : Fx} {W : WX} {k n : Nat} {f : Addr} {fd : FuncData} {ps : List Str} {dvs : List V} {ds : List Value} {dps : List PV} {x c : Str} {p pos : Pos} {e : Expr} {es : List Expr} {m : List SV → List MO → FRes} {fa : Stt → Res (List PV)}
def eMake (c : Str) (m : List SV → List MO → FRes) (n : Nat) (dps : List PV) (fa : Stt → Res (List PV)) : Stt → Res PV := fun s => (fa s).bind fun l s1 => if l.length + dps.length + 1 = n then match m (.bor 0 :: (l ++ dps).map .val) [.ins c []] with
  | .ok .non [.ins c' fs] => if c' = c then .ok (.ins c fs) s1 else .stuck
  | .ex c v _ => .ex c v s1
  | _ => .stuck
  else .stuck
theorem dv_make (M : Mk X.K (C.cl c) f) (Fn : FnP X.prog X.w X.K X.mg X.base C.cl k f fd ps m) (hr : Room (k + 1) X.A) (gu : X.A.guards = some []) (tk : Takes X W) (hK : X.K = C.K) (hm : X.mg x = some (.ref (C.cl c))) (hb : Binds X.K fd ps ds) (hd : Vals dvs ds)
    (hdp : ∀ (D : Fx) (F : Hp), D.K = X.K → Rps D F dvs dps) (ha : DA X C W (e :: es) fa)
    (hg : Gl X x := by rfl) (hdb : (x == ("__debug__" : Str)) = false := by decide) (he : starEach (e :: es) X.env = (false, eval e X.env) :: starEach es X.env := by rfl) (hpl : (backTo pos (starEach es X.env)).any (·.1) = false := by rfl) (hnn : ps.length = n := by rfl) :
    DV X C W (.Call (.Name x p) (e :: es) [] pos) (eMake c m n dps fa) := by
  subst hnn
  obtain ⟨ta, pa, qa⟩ := ha.pr
  refine ⟨_, pe_mkG (E := fun σ c d H => W c d σ H) M Fn hr gu hg hm hb hd (fun σ => passAt tk σ) pa hdb he hpl, fun F A H σ s Q o pp => ?_⟩
  refine qa F A H σ s _ o (pp.seq fun l s1 vs F1 A1 H1 _ o1 st1 r1 p1 => ?_)
  intro a dx na nd hne
  split at p1
  · rename_i hl
    have rr : Rps (mkC C a) F1 (vs ++ dvs) (l ++ dps) := Rps.append (r1.cg (by rfl) (by rfl)) (hdp (mkC C a) F1 hK.symm)
    have hlen : (V.ref a :: (vs ++ dvs)).length = ps.length := by
      rw [List.length_cons, rr.length, List.length_append]
      exact hl
    refine ⟨hlen, mkC C a, F1, .bor 0 :: (l ++ dps).map .val, [.ins c []], hK.symm, rfl, make_in o1 na nd hne, .bor (k := 0) (C := mkC C a) (by show 0 < 1; omega) (RpA.vals rr), ?_⟩
    cases e3 : m (.bor 0 :: (l ++ dps).map .val) [.ins c []] with
    | ok v ms' =>
      rw [e3] at p1
      intro u F' H' o' st' r'
      cases v with
      | non =>
        match ms', o', p1 with
        | [.ins c' fs], o', p1 =>
          simp only at p1
          by_cases hc : c' = c
          · subst hc
            rw [if_pos rfl] at p1
            cases r'
            obtain ⟨F2, o2, st2, r2⟩ := make_frz o1 na nd hne o' st'
            exact ⟨rfl, p1 _ F2 A1 H' o2 st2 r2⟩
          · rw [if_neg hc] at p1; exact p1.elim
        | [], _, p1 => exact p1.elim
        | [.lst _], _, p1 => exact p1.elim
        | [.dct _], _, p1 => exact p1.elim
        | [.bag _ _ _ _], _, p1 => exact p1.elim
        | m1 :: _ :: _, _, p1 => cases m1 <;> exact p1.elim
      | _ => exact p1.elim
    | own mo ms' => rw [e3] at p1; exact p1.elim
    | ex c2 v ms' =>
      rw [e3] at p1
      intro d F' H' o' st' x'
      obtain ⟨o2, st2⟩ := make_out o1 na nd hne o' st'
      obtain ⟨u, h1, h2⟩ := x'
      exact p1 d F' A1 H' o2 st2 ⟨u, h1, h2.cg (by rfl) (by rfl)⟩
    | stuck => rw [e3] at p1; exact p1.elim
  · exact p1.elim
end
end PL
/-! PL31: defs of classes, defs with defaults; tables from their facts. -/
namespace PL
open PySem PySem.Spec PyProof.Rows L2
def clsAt (s : Stmt) (j : Nat) : Stmt := match s with
  | .ClassDef _ _ _ b _ _ _ _ _ _ _ => b.getD j (.Pass ⟨0, 0, 0, 0⟩)
  | _ => .Pass ⟨0, 0, 0, 0⟩
/-- a def as it stands behind the top, its defaults whatever they are -/
structure FunX (K : PySem.W.Frag) (x qual : Str) (st : Stmt) (f : Addr) (fd : FuncData) : Prop where
  ex : ∃ (oc : Value) (od : Option Addr) (dV kV doc pm : Value) (an : Option Addr) (cdv ct : Value) (osl : Array (Option Value)),
    fd = PySem.W.fnOf x qual (defArgs st) (defBody st) (defScope st) dV kV doc pm an cdv ct ∧ K.lookup f = some ⟨oc, od, .func fd, osl⟩ ∧ PySem.W.codeIn K cdv qual = true
  kp : PySem.W.keepIn K (.ref f) = true
section
variable {P : Program} {w : World} {K : PySem.W.Frag} {mg : Str → Option Value} {base : Heap} {cl : Str → Addr}
theorem funX_mk {x qual : Str} {st : Stmt} {f : Addr} {oc : Value} {od an : Option Addr} {osl : Array (Option Value)} {dV kV doc pm cdv ct : Value} (l : K.lookup f = some ⟨oc, od, .func (PySem.W.fnOf x qual (defArgs st) (defBody st) (defScope st) dV kV doc pm an cdv ct), osl⟩)
    (c : PySem.W.codeIn K cdv qual = true) (k : PySem.W.keepIn K (.ref f) = true) : FunX K x qual st f (PySem.W.fnOf x qual (defArgs st) (defBody st) (defScope st) dV kV doc pm an cdv ct) := ⟨⟨oc, od, dV, kV, doc, pm, an, cdv, ct, osl, rfl, l, c⟩, k⟩
theorem fng_ofX {Cn : CXT} {k : Nat} {x qual : Str} {st : Stmt} {f : Addr} {fd : FuncData} {N ps : List Str} {sp : Sp} (F : FunX K x qual st f fd) (S : FnScope N ps (defScope st))
    (gl : ∀ vs H Q E, sp vs H Q E → vs.length = ps.length)
    (hbody : ∀ (cdv : Value) (A : Around) (outer : List Env) (s : Shared) (H : Hp) (vs : List V) (Q : VK) (E : XK), Room k (A.deeper (envOfC qual (defScope st) s.heap.objs.size f cdv)) →
      A.guards = some [] → sp vs H Q E → ∃ t, PSs (cxOf Cn P w K mg base N qual (defScope st) f cdv A outer s H E) (defBody st) t ∧ t { nx := fun _ H' => Q .non H', rt := Q } (start N vs) H) :
    FnG P w K mg base Cn (k + 1) f fd ps sp := by
  obtain ⟨oc, od, dV, kV, doc, pm, an, cdv, ct, osl, rfl, lk, cod⟩ := F.ex
  refine ⟨gl, ?_⟩
  intro A outer s H args us vs Q E room gu e0 bnd rel hsp
  have hlen := gl _ _ _ _ hsp
  have inK : K.In s.heap := e0.mod.kin.keeps fun a u q => (e0.bs a u q).1
  have nolim : s.heap.NoLimit := e0.mod.nolimit.keeps fun a u q => (e0.bs a u q).1
  have kinds : ∀ y ∈ ps.zip us, (defScope st).names.lookup y.1 = some .local ∨
      ((defScope st).names.lookup y.1 = some .cell ∧ ((cellsFrom (s.heap.objs.size + 1) (defScope st).names []).lookup y.1).isSome = true) := by
    rintro ⟨n, v⟩ hy
    cases S.par n (List.of_mem_zip hy).1 with
    | inl z => exact .inl z
    | inr z => exact .inr ⟨z, PySem.W.cellsFrom_some _ _ _ (.inl z)⟩
  refine codeAny_call_function room.depth (inK _ _ lk) rfl S.co S.gen rfl (PySem.W.codeRec_of inK cod) (bnd _ _ _ _ ?_)
  refine wpAny_newFunctionEnv_cells S.kind kinds ?_
  intro env he s1 made
  subst he
  refine ⟨nolim.keeps made.toInCall.keep, codeAny_func ?_⟩
  obtain ⟨t, tr, tq⟩ := hbody cdv A outer s H vs Q E (room.deeper _) gu hsp
  have I0 := inv_start (CX := Cn) (E := E) S room.hd e0 hlen rel made
  refine wpAny_mono (tr.run [] s1 (start N vs) H _ I0 tq) ?_ fun e s' z => z
  intro fl s' end'
  cases fl with
  | brk => obtain ⟨_, _, _, z⟩ := end'; exact z.elim
  | cont => obtain ⟨_, _, _, z⟩ := end'; exact z.elim
  | next =>
    obtain ⟨σ', H', J, z⟩ := end'
    exact ⟨.non, H', J.os, J.bare, J.base, J.hok, rfl, z⟩
  | ret u =>
    obtain ⟨v, σ', H', J, rv, z⟩ := end'
    exact ⟨v, H', J.os, J.bare, J.base, J.hok, rv, z⟩
theorem fnpX {x qual : Str} {st : Stmt} {f : Addr} {fd : FuncData} {N ps : List Str} {k n : Nat} {g : Stt → Fl} (F : FunX K x qual st f fd) (S : FnScope N ps (defScope st)) (hn : N.length = n)
    (hbody : ∀ (cdv : Value) (A : Around) (outer : List Env) (s : Shared) (H : Hp) (E : XK) (C : Fx), C.K = K → C.cl = cl → Room k (A.deeper (envOfC qual (defScope st) s.heap.objs.size f cdv)) →
      Bd (cxOf (L2.CX P w) P w K mg base N qual (defScope st) f cdv A outer s H E) (fun c d _ H => E c d H) →
      DSs (cxOf (L2.CX P w) P w K mg base N qual (defScope st) f cdv A outer s H E) C (fun c d _ H => E c d H) (defBody st) g) : FnP P w K mg base cl (k + 1) f fd ps (mOf n g) := by
  subst hn
  refine fng_ofX F S (fun vs H Q E h => h.1) (fun cdv A outer s H vs Q E hr gu h => ?_)
  obtain ⟨hl, C, F0, as, mu, hK, hcl, o, r, p⟩ := h
  have bd : Bd (cxOf (L2.CX P w) P w K mg base N qual (defScope st) f cdv A outer s H E) (fun c d _ H => E c d H) := ⟨rfl, passes_of (K := fun e s'' => L2.CX P w outer H s E e s'') rfl, takes_of rfl rfl rfl rfl, hr.hd, gu⟩
  obtain ⟨t, h1, h2⟩ := (hbody cdv A outer s H E C hK hcl hr bd).pr
  exact ⟨t, h1, h2 F0 noA H _ _ _ (okF_start (N := N) o r) (postF_end (fun _ _ _ _ h => h) p)⟩
/-- the last parameter has a default -/
theorem binds_d1 {x qual : Str} {params : Arguments} {body : List Stmt} {scope : Scope} {f T t : Addr} {oc oc2 : Value} {od od2 an : Option Addr} {osl osl2 : Array (Option Value)} {kV doc pm cdv ct : Value} {n m : Nat} {ps : List Str}
    (lT : K.lookup T = some ⟨oc2, od2, .seq #[.ref t] n, osl2⟩) (hm : m + 1 = ps.length)
    (h : ∀ us : List Value, us.length = m → ∃ k, bindArgs (PySem.W.fnOf x qual params body scope (.ref T) kV doc pm an cdv ct) ⟨us, []⟩ = seqItems? (.ref T) >>= k ∧ k (some #[.ref t]) = pure (ps.zip (us ++ [.ref t]))) :
    Binds K (PySem.W.fnOf x qual params body scope (.ref T) kV doc pm an cdv ct) ps [.ref t] := by
  intro s us X hlen
  have l2 : us.length = m := by
    rw [List.length_append, List.length_singleton] at hlen
    omega
  obtain ⟨k, e1, e2⟩ := h us l2
  refine BindsTo.of_looks fun M => ?_
  rw [e1]
  exact looks_items X lT rfl (.of_pure e2)
end
section
variable {X : Cx} {C : Fx} {W : WX} {k n : Nat} {f : Addr} {fd : FuncData} {ps : List Str} {x c : Str} {p pos : Pos} {e : Expr} {es : List Expr} {m : List SV → List MO → FRes} {fa : Stt → Res (List PV)}
/-- K(e, ..), the last parameter left out -/
theorem dv_make1 {dp : PV} (M : Mk X.K (C.cl c) f) (Fn : FnP X.prog X.w X.K X.mg X.base C.cl k f fd ps m) (hr : Room (k + 1) X.A) (gu : X.A.guards = some []) (tk : Takes X W) (hK : X.K = C.K) (hm : X.mg x = some (.ref (C.cl c))) (hb : ∃ u, Binds X.K fd ps [u] ∧ KvV X.K u dp) (ha : DA X C W (e :: es) fa)
    (hg : Gl X x := by rfl) (hdb : (x == ("__debug__" : Str)) = false := by decide) (he : starEach (e :: es) X.env = (false, eval e X.env) :: starEach es X.env := by rfl) (hpl : (backTo pos (starEach es X.env)).any (·.1) = false := by rfl) (hnn : ps.length = n := by rfl) :
    DV X C W (.Call (.Name x p) (e :: es) [] pos) (eMake c m n [dp] fa) := by
  obtain ⟨u, h1, h2⟩ := hb
  obtain ⟨v, h3, h4⟩ := h2.rp
  exact dv_make M Fn hr gu tk hK hm h1 (.cons h3 .nil) (fun D F e => .cons (h4 D F e) .nil) ha hg hdb he hpl hnn
end
/-! ### tables from their facts -/
inductive KvL (K : PySem.W.Frag) (p : Addr) : List (Str × PV) → Prop
  | nil : KvL K p []
  | cons {k : Str} {u : Value} {v : PV} {r : List (Str × PV)} : PySem.W.nsIn K p k = some (some u) → KvV K u v → KvL K p r → KvL K p ((k, v) :: r)
theorem KvL.look {K : PySem.W.Frag} {p : Addr} {k : Str} {pv : PV} : ∀ {tbl : List (Str × PV)}, KvL K p tbl → tbl.lookup k = some pv → ∃ u, PySem.W.nsIn K p k = some (some u) ∧ KvV K u pv
  | [], _, h => by simp at h
  | (k', v) :: r, .cons h1 h2 h3, h => by
    rw [List.lookup_cons] at h
    cases e : (k == k') with
    | true =>
      rw [e] at h
      cases h
      have ek : k = k' := eq_of_beq e
      subst ek
      exact ⟨_, h1, h2⟩
    | false =>
      rw [e] at h
      exact KvL.look h3 h
theorem dct_mk {w : World} {K : PySem.W.Frag} {mg : Str → Option Value} {x : Str} {tbl : List (Str × PV)} {p : Addr} {es : Array DictEntry} {n : Nat} {ks : List Str} (hm : mg x = some (.ref p)) (hl : K.lookup p = some ⟨.type "dict", none, .dict es n, #[]⟩)
    (hk : es.toList.map He.keyOf = He.keysIn w.params ks) (low : (p == sysModules) = false) (h : KvL K p tbl) : DctT w K mg x tbl :=
  ⟨p, es, n, hm, ⟨hl, He.keysLit_of hk, low⟩, fun _ _ e => h.look e⟩
end PL
/-! PL32: list(range(a, b)), numbers of any size. -/
namespace PL
open PySem PySem.Spec PyProof.Rows L2
section
variable {X : Cx} {C : Fx} {W : WX} {a b : Expr} {pos : Pos} {fe fb : Stt → Res PV} {e : Expr} {te : L2.St → Hp → (Int → Int → Hp → Prop) → Prop}
def oRgW (i j : Int) (s : Stt) : Res MO := if j - i ≤ 16777216 then .ok (.lst (rng i (j - i).toNat)) s else .stuck
def oRgW2 (fa fb : Stt → Res PV) : Stt → Res MO := fun s => (fa s).bind fun p s1 => (fb s1).bind fun q s2 => match p, q with
  | .int i, .int j => oRgW i j s2
  | _, _ => .stuck
end
end PL
/-! PL33: enumerate(e), e a list or a tuple. -/
namespace PLT2
open PySem
open AutoSeq1 (wpAny_loadPart')
theorem meets_enum_tup (l : Addr) (items : Array Value) (n : Nat) (dct : Option Addr) (sl : Array (Option Value)) :
    Meets (Builtin.«enumerate.__new__» ⟨[.type "enumerate", .ref l], []⟩) (fun _ R s => s.heap.get? l = some { cls := .type "tuple", dict := dct, data := .seq items n, slots := sl } ∧
      R (.ok (.ret (.ref (s.heap.push { cls := .type "tuple_iterator", data := .fields #[.ref l, .int 0 0] }).objs.size)))
        { s with heap := (s.heap.push { cls := .type "tuple_iterator", data := .fields #[.ref l, .int 0 0] }).push { cls := .type "enumerate", data := .fields #[.none, .bool false, .ref s.heap.objs.size, rawInt 0, .none, .none] } }) :=
  .of_wp fun prog w A R s h => by
    obtain ⟨hp, g, d, tk, os⟩ := s; obtain ⟨hl, h⟩ := h
    have hsub := sub_enumerate
    have hL : Heap.IsTuple (Shared.heap ⟨hp, g, d, tk, os⟩) l items := ⟨_, hl, rfl, n, rfl⟩
    wp_walk using wpAny_loadPart' hl
    refine wpAny_stack_any fun st => wpAny_pure ?_
    split
    · rename_i c _ _ _ _ _
      cases (c == Value.type "enumerate") <;> (wp_walk using wpAny_loadPart' hl, wpAny_pyIter_tuple hL; exact ⟨_, rfl, h⟩)
    · wp_walk using wpAny_loadPart' hl, wpAny_pyIter_tuple hL
      exact ⟨_, rfl, h⟩
section
variable {prog : Program} {w : World} {A : Around} {E : Value → Shared → Prop} {s : Shared}
theorem call_enum_tup {l : Addr} {items : Array Value} {Q : Value → Shared → Prop} (hL : s.heap.IsTuple l items)
    (h : ∀ h', IsEnum h' (s.heap.objs.size + 1) s.heap.objs.size 0 .none → h'.IsTupleIter s.heap.objs.size l 0 → h'.objs.size = s.heap.objs.size + 2 →
      (∀ b o, s.heap.get? b = some o → h'.get? b = some o) → Q (.ref (s.heap.objs.size + 1)) { s with heap := h' }) :
    wpAny (model prog w) A (call (.type "enumerate") [.ref l]) Q E s := by
  obtain ⟨⟨c, dct, dt, sl⟩, hl, hc, n, hd⟩ := hL
  replace hc : c = .type "tuple" := hc
  replace hd : dt = .seq items n := hd
  subst hc hd
  refine callType_new F.called_enumerate (by decide) (F.typeCall_enumerate_1 _) (F.newCall_enumerate_1 _) (fun obj => F.args_object_init_2 obj _) F.entry_enumerate_new
    (meets_enum_tup l items n dct sl) ⟨hl, ?_⟩
  have hz : (s.heap.push { cls := .type "tuple_iterator", data := .fields #[.ref l, .int 0 0] }).objs.size = s.heap.objs.size + 1 := Heap.size_push ..
  show _ ∧ _
  rw [hz]
  have he : IsEnum ((s.heap.push { cls := .type "tuple_iterator", data := .fields #[.ref l, .int 0 0] }).push
      { cls := .type "enumerate", data := .fields #[.none, .bool false, .ref s.heap.objs.size, rawInt 0, .none, .none] }) (s.heap.objs.size + 1) s.heap.objs.size 0 .none := by
    have := Heap.get?_push_size (s.heap.push { cls := .type "tuple_iterator", data := .fields #[.ref l, .int 0 0] })
      (o := { cls := .type "enumerate", data := .fields #[.none, .bool false, .ref s.heap.objs.size, rawInt 0, .none, .none] }) rfl
    rw [hz] at this; exact this
  refine ⟨⟨_, he, rfl⟩, h _ he ⟨_, Heap.get?_push_of_some _ (Heap.get?_push_size _ rfl), rfl, rfl⟩ (by rw [Heap.size_push, hz]) fun b o x => Heap.get?_push_of_some _ (Heap.get?_push_of_some _ x)⟩
end
end PLT2
namespace PL
open PySem PySem.Spec PyProof.Rows L2
/-- the tuple at a, each item in a new pair -/
def IteT (K : PySem.W.Frag) (a : Addr) : It :=
  ⟨fun i H => ∃ (xs : List V) (x : V), SqT K H a xs ∧ xs[i]? = some x, fun i H v H' => ∃ T x, v = .ref T ∧ H T = none ∧ H' = L2.upd H T (.tup [.int (i : Nat), x]) ∧ ∀ xs, SqT K H a xs → xs[i]? = some x, fun i H => ∃ xs : List V, SqT K H a xs ∧ xs.length ≤ i⟩
theorem turn_enumT {P : Program} {w : World} {K : PySem.W.Frag} {elts : List Expr} {kk : Nat} {tpos : Pos} (a e it : Addr) :
    Turn P w K (.Tuple elts kk tpos) (IteT K a) [e, it] e (fun i h => (∃ old, IsEnum h e it ((i : Nat) : Int) old) ∧ h.IsTupleIter it a i ∧ e ≠ it) where
  mem := by simp
  obj := fun i h st b hb => by
    obtain ⟨⟨old, he⟩, ⟨o, ho, hc, hd⟩, _⟩ := st
    have e' : b = e ∨ b = it := by simpa using hb
    rcases e' with z | z
    · rw [z]; exact ⟨_, he, fun v q => nomatch q⟩
    · rw [z]; exact ⟨o, ho, fun v q => by rw [hd] at q; cases q⟩
  keep := fun i h h' st k => let ⟨⟨old, he⟩, hi, hne⟩ := st; ⟨⟨old, k e (by simp) _ he⟩, hi.at fun o q => k it (by simp) o q, hne⟩
  item := by
    intro X hP hw hK hc i pins s σ H E I hf st hg
    subst hP hw hK
    obtain ⟨⟨old, he⟩, hit, hne⟩ := st
    obtain ⟨xs, x, hq, hx⟩ := hg
    obtain ⟨its, rv, p, hz⟩ := I.tuple hq
    obtain ⟨u, hu, ru⟩ := rv.get hx
    have hel : e < s.heap.objs.size := Heap.lt_size he
    have hil : it < s.heap.objs.size := by obtain ⟨_, q, _⟩ := hit; exact Heap.lt_size q
    have hT : s.heap.IsTuple a its.toArray := p
    have hau : a ≠ it := by
      intro z
      obtain ⟨o1, q1, q2, _⟩ := hT
      obtain ⟨o2, q3, q4, _⟩ := hit
      rw [z, q3] at q1
      cases q1
      rw [q4] at q2
      exact absurd (Value.type.inj q2) (by decide)
    have hae : e ∉ [it, a] := by
      intro z
      rcases List.mem_cons.mp z with z | z
      · exact hne z
      · rw [List.mem_singleton] at z
        obtain ⟨o1, q1, q2, _⟩ := hT
        rw [← z, he] at q1
        cases q1
        exact absurd (Value.type.inj q2) (by decide)
    have D := Draws.tuple (prog := X.prog) (w := X.w) (A := X.A.in1) (I.ok.hd hc) it a hau its.toArray
    have hi : i < its.toArray.size := by
      have := (List.getElem?_eq_some_iff.mp hu).1
      simpa using this
    refine wpAny_pyNext_enum_itemD D he ⟨hit, hT⟩ hi hne hae fun x' h' tk hx' ho hst hTn hsz hk => ?_
    have ex : u = x' := by
      have h1 : its.toArray[i]? = some x' := hx'
      rw [List.getElem?_toArray, hu] at h1
      exact Option.some.inj h1
    subst ex
    refine ⟨_, rfl, wpAny_letOwnedTupleGo_enum (s := { s with heap := h', toks := tk + 1 }) ho fun h'' he' sb => ?_⟩
    have hT2 : h''.get? s.heap.objs.size = some { cls := .type "tuple", data := .seq #[.int i tk, u] } := (sb.2 _ (Nat.ne_of_gt hel)).trans hTn
    have new : ObjOk X.prog X.w (L2.upd H s.heap.objs.size (.tup [.int (i : Nat), x])) h'' s.heap.objs.size (.tup [.int (i : Nat), x]) :=
      ⟨by show 2 ≤ sizeLine; decide, [.int i tk, u], .cons ⟨_, rfl⟩ (.cons ru .nil), ⟨_, hT2, rfl, _, rfl⟩⟩
    have I1 : Inv X pins σ (L2.upd H s.heap.objs.size (.tup [.int (i : Nat), x])) { s with heap := h'', toks := tk + 1 } :=
      I.turnedNew (ch := [e, it]) (fun b ob hb q => (sb.2 b (fun z => hb (by simp [z]))).trans (hk b ob (fun z => hb (by simp [z])) (fun z => hb (by simp [z])) q)) hf (Nat.le_refl _) new
    refine ⟨.ref s.heap.objs.size, _, I1, rfl, ⟨_, x, rfl, I.hok.fresh (Nat.le_refl _), rfl, fun ys hy => by rw [I.tuple_inj hy hq]; exact hx⟩, ⟨⟨u, ?_⟩, hst.1.at fun o q => (sb.2 it (Ne.symm hne)).trans q, hne⟩, fun b hb => ?_⟩
    · have e1 : ((i + 1 : Nat) : Int) = (i : Int) + 1 := by omega
      rw [e1]; exact he'
    · have hb' : b < s.heap.objs.size := by
        have e' : b = e ∨ b = it := by simpa using hb
        rcases e' with z | z
        · rw [z]; exact hel
        · rw [z]; exact hil
      rw [L2.upd_ne (Nat.ne_of_lt hb')]
      exact (hf b hb).1
  done := by
    intro X hP hw hK hc i pins s σ H E I hf st hg
    subst hP hw hK
    obtain ⟨⟨old, he⟩, hit, hne⟩ := st
    obtain ⟨xs, hq, hx⟩ := hg
    obtain ⟨its, rv, p, hz⟩ := I.tuple hq
    have hT : s.heap.IsTuple a its.toArray := p
    obtain ⟨f0, f1, f2, f3, f4, f5⟩ := hf it (by simp)
    have hl := rv.length
    unfold pyNext
    have hTy : s.TypeIs (.ref e) "enumerate" := ⟨_, he, rfl⟩
    refine wpAny_bind (wpAny_attempt (wpAny_callSpecial?_slot (name := Str.ofString "__next__") hTy F.slot_enumerate_next
      (wpAny_call_entry F.slot_enumerate_next hTy F.entry_enumerate_next ?_ (F.args_enumerate_next_1 _))))
    show wpAny _ _ (field (.ref e) 2 >>= _) _ _ _
    refine wpAny_bind (wpAny_field he rfl (x := .ref it) rfl ?_)
    refine wpAny_bind (wpAny_nextOf_tuple_end (I.ok.hd hc) hit hT (by simp; omega) fun h' x' he' hx' => ?_)
    obtain ⟨o, ho, hcc⟩ := hx'
    refine wpAny_bind (wpAny_isInstance (T := "StopIteration") (b := true) ⟨o, ho, hcc⟩ isSubtype_stop ?_)
    exact wpAny_pure ⟨rfl, I.turned (t' := s.toks) (fun b o hb q => he' b o hb q) f0 f1 f3 f4 f5⟩
  self := fun A i s Q E st h => let ⟨⟨_, he⟩, _⟩ := st; wpAny_pyIter_enum he h
def iEnumA (K : PySem.W.Frag) (ta : TA) : TI := fun σ H R => ta σ H fun vs H1 => ∃ a xs, vs = [.ref a] ∧ ((SqL K H1 a xs ∧ R (Ite K a) H1) ∨ (SqT K H1 a xs ∧ R (IteT K a) H1))
theorem pi_enumA {X : Cx} {e : Expr} {ta : TA} {p pos tpos : Pos} {elts : List Expr} {kk : Nat} (hg : Gl X "enumerate") (hm : X.mg "enumerate" = none) (ha : PA X [e] ta) (hs : starEach [e] X.env = [(false, eval e X.env)]) :
    PI X (.Tuple elts kk tpos) (.Call (.Name "enumerate" p) [e] [] pos) (iEnumA X.K ta) := by
  refine ⟨fun pins s σ H R I h => ?_⟩
  refine Call_ (ld_blt I hg hm boot_enumerate (PyProof.Rows.callWith_type1 (thn (ha.run pos pins s σ H _ I h) fun us s1 ⟨vs, H1, I1, r1, q1⟩ => ?_) hs rfl))
  obtain ⟨a, xs, ex, q⟩ := q1
  subst ex
  cases r1 with
  | cons r rr =>
    cases rr
    cases r
    rcases q with ⟨hq, q⟩ | ⟨hq, q⟩
    · obtain ⟨its, rv, p', hz⟩ := I1.list hq
      refine call_enumerate_list p'.isList fun h' he hit hsz hk => wpAny_pyIter_enum he ?_
      have I2 : Inv X pins σ H1 { s1 with heap := h' } := I1.kept (t' := s1.toks) hk
      refine ⟨s1.heap.objs.size + 1, [s1.heap.objs.size + 1, s1.heap.objs.size], _, _, H1, rfl, I2, turn_enum a (s1.heap.objs.size + 1) s1.heap.objs.size, ⟨⟨.none, he⟩, hit, Nat.succ_ne_self _⟩, fun b hb => ?_, q⟩
      have e' : b = s1.heap.objs.size + 1 ∨ b = s1.heap.objs.size := by simpa using hb
      have hle : s1.heap.objs.size ≤ b := by
        rcases e' with z | z
        · rw [z]; exact Nat.le_add_right _ _
        · rw [z]; exact Nat.le_refl _
      exact I1.fpOk hle (I1.hok.fresh hle)
    · obtain ⟨its, rv, p', hz⟩ := I1.tuple hq
      refine PLT2.call_enum_tup (show s1.heap.IsTuple a its.toArray from p') fun h' he hit hsz hk => wpAny_pyIter_enum he ?_
      have I2 : Inv X pins σ H1 { s1 with heap := h' } := I1.kept (t' := s1.toks) hk
      refine ⟨s1.heap.objs.size + 1, [s1.heap.objs.size + 1, s1.heap.objs.size], _, _, H1, rfl, I2, turn_enumT a (s1.heap.objs.size + 1) s1.heap.objs.size, ⟨⟨.none, he⟩, hit, Nat.succ_ne_self _⟩, fun b hb => ?_, q⟩
      have e' : b = s1.heap.objs.size + 1 ∨ b = s1.heap.objs.size := by simpa using hb
      have hle : s1.heap.objs.size ≤ b := by
        rcases e' with z | z
        · rw [z]; exact Nat.le_add_right _ _
        · rw [z]; exact Nat.le_refl _
      exact I1.fpOk hle (I1.hok.fresh hle)
theorem walk_enumT {K : PySem.W.Frag} {a : Addr} {xs : List V} : Walk (IteT K a) xs.length (fun H => SqT K H a xs) (YPair (fun i => some (.int (i : Nat))) (fun i => xs[i]?)) := by
  refine ⟨fun i _ hi q => ⟨xs, xs[i], q, by simp [hi]⟩, fun _ q => ⟨xs, q, Nat.le_refl _⟩, fun i H v H' _ q y => ?_⟩
  obtain ⟨T, x, h1, h2, h3, h4⟩ := y
  exact ⟨T, .int (i : Nat), x, h1, h2, h3, rfl, h4 xs q⟩
section
variable {X : Cx} {C : Fx} {W : WX} {e : Expr} {pos : Pos} {fa : Stt → Res (List PV)}
def iEnumQ (fa : Stt → Res (List PV)) : Stt → Res (List PV) := fun s => (fa s).bind fun p s1 => match p with
  | [.lst l] => .ok (enumP l) s1
  | [.tup l] => .ok (enumP l) s1
  | [.scr l] => .ok (enumP l) s1
  | _ => .stuck
theorem di_enumQ {p tpos : Pos} {elts : List Expr} {kk : Nat} (hK : X.K = C.K) (hg : Gl X "enumerate") (hm : X.mg "enumerate" = none) (ha : DA X C W [e] fa) (hs : starEach [e] X.env = [(false, eval e X.env)] := by rfl) :
    DI X C W (.Tuple elts kk tpos) (.Call (.Name "enumerate" p) [e] [] pos) (iEnumQ fa) := by
  obtain ⟨te, pe, qe⟩ := ha.pr
  refine ⟨_, pi_enumA hg hm pe hs, fun F A H σ s Q o p => ?_⟩
  refine qe F A H σ s _ o (p.seq fun l s1 v F1 A1 H1 _ o1 st1 r1 p1 => ?_)
  have fin : ∀ (b : Addr) (xs : List V) (l : List PV), (∀ H2, Same F1 H2 → SqL X.K H2 b xs) → Rps C F1 xs l → Post C W (RI C) F1 A1 H1 σ (.ok (enumP l) s1) Q → Q (Ite X.K b) H1 := fun b xs l hS hr pp => by
    refine Post.now o1 pp ⟨fun H => SqL X.K H b xs, _, ?_, hS, enum_ok hr⟩
    rw [enumP_len, ← hr.length]
    exact walk_enum
  have finT : ∀ (b : Addr) (xs : List V) (l : List PV), (∀ H2, Same F1 H2 → SqT X.K H2 b xs) → Rps C F1 xs l → Post C W (RI C) F1 A1 H1 σ (.ok (enumP l) s1) Q → Q (IteT X.K b) H1 := fun b xs l hS hr pp => by
    refine Post.now o1 pp ⟨fun H => SqT X.K H b xs, _, ?_, hS, enum_ok hr⟩
    rw [enumP_len, ← hr.length]
    exact walk_enumT
  unfold iEnumQ at p
  split at p1
  · obtain ⟨u, rfl, h⟩ := rps1 r1
    cases h with
    | @lst b xs l h1 h2 => exact ⟨b, xs, rfl, .inl ⟨.of (o1.sub _ _ h1), fin b xs _ (fun H2 sm => .of (sm _ _ h1)) h2 p1⟩⟩
  · obtain ⟨u, rfl, h⟩ := rps1 r1
    cases h with
    | @tup b xs l h1 h2 => exact ⟨b, xs, rfl, .inr ⟨by rw [hK]; exact sqT_mono o1.sub h1, finT b xs _ (fun H2 sm => by rw [hK]; exact sqT_mono sm h1) h2 p1⟩⟩
  · obtain ⟨u, rfl, h⟩ := rps1 r1
    cases h with
    | @scr b xs l h1 h2 => exact ⟨b, xs, rfl, .inl ⟨by rw [hK]; exact o1.sub.seq h1, fin b xs _ (fun H2 sm => by rw [hK]; exact sm.seq h1) h2 p1⟩⟩
  · exact p1.elim
end
end PL
/-! PL34: a list of lists that grow. -/
namespace PL
open PySem PySem.Spec PyProof.Rows L2
section
variable {C : Fx} {F H : Hp}
theorem Lls.len : ∀ {as : List Addr} {ls : List (List PV)}, Lls C F H as ls → as.length = ls.length
  | [], [], _ => rfl
  | a :: as, l :: ls, ⟨_, h⟩ => by rw [List.length_cons, List.length_cons, Lls.len h]
  | [], _ :: _, h => h.elim
  | _ :: _, [], h => h.elim
theorem Lls.get : ∀ {as : List Addr} {ls : List (List PV)} {i : Nat} {l : List PV}, Lls C F H as ls → ls[i]? = some l → ∃ a xs, as[i]? = some a ∧ H a = some (.lst xs) ∧ Rps C F xs l
  | [], [], _, _, _, e => by simp at e
  | a :: as, l :: ls, 0, _, ⟨⟨xs, h1, h2⟩, _⟩, e => by simp at e; subst e; exact ⟨a, xs, rfl, h1, h2⟩
  | a :: as, l :: ls, i + 1, _, ⟨_, h⟩, e => by
    obtain ⟨b, xs, h1, h2⟩ := Lls.get (i := i) h (by simpa using e)
    exact ⟨b, xs, by simpa using h1, h2⟩
  | [], _ :: _, _, _, h, _ => h.elim
  | _ :: _, [], _, _, h, _ => h.elim
theorem Lls.set {a : Addr} {ys : List V} {l2 : List PV} (r : Rps C F ys l2) : ∀ {as : List Addr} {ls : List (List PV)} {i : Nat}, as.Nodup → Lls C F H as ls → as[i]? = some a → Lls C F (upd H a (.lst ys)) as (ls.set i l2)
  | [], [], _, _, _, e => by simp at e
  | b :: as, l :: ls, 0, nd, ⟨⟨xs, h1, h2⟩, h⟩, e => by
    simp at e; subst e
    refine ⟨⟨ys, upd_same, r⟩, h.keep (fun _ _ z => z) fun c o hc ho => ?_⟩
    rw [upd_ne (show c ≠ b from fun z => (List.nodup_cons.mp nd).1 (z ▸ hc))]; exact ho
  | b :: as, l :: ls, i + 1, nd, ⟨⟨xs, h1, h2⟩, h⟩, e => by
    have e : as[i]? = some a := by simpa using e
    have hne : b ≠ a := fun z => (List.nodup_cons.mp nd).1 (by rw [z]; exact List.mem_of_getElem? e)
    exact ⟨⟨xs, by rw [upd_ne hne]; exact h1, h2⟩, Lls.set r (List.nodup_cons.mp nd).2 h e⟩
  | [], _ :: _, _, _, h, _ => h.elim
  | _ :: _, [], _, _, h, _ => h.elim
end
/-! ### a list of lists is a plain value from now on -/
theorem Lls.plain {C : Fx} {F F2 H : Hp} (e : Same F F2) : ∀ {as : List Addr} {ls : List (List PV)}, Lls C F H as ls → (∀ b, b ∈ as → F2 b = H b) → Rps C F2 (as.map V.ref) (ls.map PV.lst)
  | [], [], _, _ => .nil
  | a :: as, l :: ls, ⟨⟨xs, h1, h2⟩, h⟩, k => .cons (.lst (by rw [k a List.mem_cons_self]; exact h1) (h2.mono e)) (Lls.plain e h fun b hb => k b (List.mem_cons_of_mem _ hb))
  | [], _ :: _, h, _ => h.elim
  | _ :: _, [], h, _ => h.elim
/-! ### x[b].append(y), y a name -/
/-! ### [[] for ..] -/
end PL
/-! PL35: starred displays, the length of an own list, methods called. -/
namespace PL
open PySem PySem.Spec PyProof.Rows L2
section
variable {X : Cx} {C : Fx} {W : WX} {e o : Expr} {es : List Expr} {pos : Pos} {fe : Stt → Res PV} {fs : Stt → Res (List PV)}
def itemsP : PV → Option (List PV)
  | .lst l => some l
  | .tup l => some l
  | .scr l => some l
  | _ => none
def aStar (fe : Stt → Res PV) (fs : Stt → Res (List PV)) : Stt → Res (List PV) := fun s => (fe s).bind fun p s1 => match itemsP p with
  | some l => (fs s1).bind fun q s2 => .ok (l ++ q) s2
  | none => .stuck
theorem da_star {p : Pos} (hK : X.K = C.K) (he : DV X C W e fe) (hs : DA X C W es fs) (ht : starEach (.Starred e p :: es) X.env = (true, eval e X.env) :: starEach es X.env := by rfl) : DA X C W (.Starred e p :: es) (aStar fe fs) := by
  obtain ⟨te, pe, qe⟩ := he.pr
  obtain ⟨tb, pb, qb⟩ := hs.pr
  refine ⟨_, StX.pa_star pe pb ht, fun F A H σ s Q ok pp => ?_⟩
  refine qe F A H σ s _ ok (pp.seq fun q1 s1 v1 F1 A1 H1 _ o1 st1 r1 p1 => ?_)
  cases r1 with
  | @lst a xs l h1 h2 =>
    refine ⟨a, xs, rfl, .inr (.of (o1.sub _ _ h1)), ?_⟩
    refine qb F1 A1 H1 σ s1 _ o1 (p1.seq fun q2 s2 v2 F2 A2 H2 _ o2 st2 r2 p2 => ?_)
    exact Post.now o2 p2 ((h2.mono st2.s1).append r2)
  | @tup a xs l h1 h2 =>
    refine ⟨a, xs, rfl, .inl (by rw [hK]; exact sqT_mono o1.sub h1), ?_⟩
    refine qb F1 A1 H1 σ s1 _ o1 (p1.seq fun q2 s2 v2 F2 A2 H2 _ o2 st2 r2 p2 => ?_)
    exact Post.now o2 p2 ((h2.mono st2.s1).append r2)
  | @scr a xs l h1 h2 =>
    refine ⟨a, xs, rfl, .inr (by rw [hK]; exact o1.sub.seq h1), ?_⟩
    refine qb F1 A1 H1 σ s1 _ o1 (p1.seq fun q2 s2 v2 F2 A2 H2 _ o2 st2 r2 p2 => ?_)
    exact Post.now o2 p2 ((h2.mono st2.s1).append r2)
  | _ => exact p1.elim
end
/-! ### methods -/
theorem Rpf.none {C : Fx} {F : Hp} {n : Str} : ∀ {fs : List (Str × V)} {l : List (Str × PV)}, Rpf C F fs l → l.lookup n = none → fs.lookup n = none
  | _, _, .nil, _ => rfl
  | _, _, .cons (n := k) h r, e => by
    rw [List.lookup_cons] at e ⊢
    cases z : (n == k) with
    | true => rw [z] at e; cases e
    | false => rw [z] at e; exact Rpf.none r e
end PL
/-! PL36: a list grows by a tuple's items. -/
namespace PL
open PySem PySem.Spec PyProof.Rows L2
end PL
/-! PL37: properties read, len(x) and x == y, x != y by own methods. -/
namespace PL
open PySem PySem.Spec PyProof.Rows L2
end PL
/-! PL38: isinstance(e, K) of an instance of K; a class with its own __eq__, from its facts. -/
namespace PL
open PySem PySem.Spec PyProof.Rows L2
end PL
/-! PL39: x + y by an own __add__; methods with arguments. -/
namespace PL
open PySem PySem.Spec PyProof.Rows L2
end PL
/-! PL40: sorted(e), e an ascending list of whole numbers. -/
namespace PL
open PySem PySem.Spec PyProof.Rows L2
end PL
/-! PL41: x, y = value, fresh list, where a name is no plain local. -/
namespace PL
open PySem PySem.Spec PyProof.Rows L2
end PL
/-! PL42: a comprehension with two fors. -/
namespace PL
open PySem PySem.Spec PyProof.Rows L2
section
variable {X : Cx} {C : Fx} {W : WX} {elt tg iter tg1 iter1 : Expr} {ifs ifs1 : List Expr} {scope : Scope} {own : List (Str × Nat)} {vs1 : List Nat} {pos : Pos} {fi fi1 : Stt → Res (List PV)} {a a1 : PV → Stt → Option Stt} {ft ft1 : Stt → Res Bool} {fe : Stt → Res PV}
def cTI (C : Fx) (W : WX) (f : Stt → Res (List PV)) : TI := fun σ H Q => ∃ F A s, OkF C F A H σ s ∧ Post C W (RI C) F A H σ (f s) Q
theorem DI.c {tg iter : Expr} (h : DI X C W tg iter fi) : PI X tg iter (cTI C W fi) := by
  obtain ⟨t, p, q⟩ := h.pr
  exact ⟨fun pins s σ H R I ⟨F, A, s1, o, pp⟩ => p.run pins s σ H R I (q F A H σ s1 R o pp)⟩
end
end PL
/-! PL43: calls f( *t ) and f( *t, v, .. ) of defs with plain values. -/
namespace PL
open PySem PySem.Spec PyProof.Rows L2
end PL
/-! PL44: x in t, x not in t for a tuple t of data. -/
namespace PL
open PySem PySem.Spec PyProof.Rows L2
end PL
/-! PL45: defs whose last parameter has a default: all written, the last one left out, keywords. -/
namespace PL
open PySem PySem.Spec PyProof.Rows L2
end PL
/-! PL46: min(e) of a list of tuples of ints. -/
namespace PL
open PySem PySem.Spec PyProof.Rows L2
end PL
/-! PL47: sorted(e), e an ascending list of pairs of whole numbers. -/
namespace PL
open PySem PySem.Spec PyProof.Rows L2
end PL
/-! PL48: int of a text. -/
namespace PL
open PySem PySem.Spec PyProof.Rows L2
end PL
namespace PL
open PySem PySem.Spec PyProof.Rows L2
end PL
/-! PL49: a def that calls itself: the mirror with no fuel left is stuck. -/
namespace PL
open PySem PySem.Spec PyProof.Rows L2
end PL
/-! PL51: sorted(e), e any list of whole numbers. -/
namespace PL
open PySem PySem.Spec PyProof.Rows L2
end PL
/-! PLB: the bag: a dict of three numbers and a list of numbers, under written keys. -/
namespace PL
open PySem PySem.Spec PyProof.Rows L2
/-! ### t < u, tuples of numbers -/
end PL
/-! PLU: sorted(set(xs)), xs a list of ints; xs.count(x). -/
namespace PL
open PySem PySem.Spec PyProof.Rows L2
/-- a set that was just made -/
abbrev set0 (w : World) : Obj := { cls := .type "set", dict := none, data := .set #[] 0 (.fresh 0 0 (!w.params.followText "set-order")) }
/-- what set.__init__ leaves -/
def Filled (w : World) (s : Shared) (ns : List Int) (s2 : Shared) : Prop :=
  ∃ h' tk c, s2 = { s with heap := h', toks := tk } ∧ SetR w h' s.heap.objs.size (fun j => decide (j ∈ ns)) c ∧ c ≤ ns.length ∧ ∀ b o, s.heap.get? b = some o → h'.get? b = some o
section
variable {P : Program} {w : World} {A : Around} {E : Value → Shared → Prop} {s : Shared}
/-- the numbers of a list go into the new set -/
theorem set_fill {B : Around} {l : Addr} {items : Array Value} (ns : List Int) {R : Result → Shared → Prop} (hh : B.handled = none) (hl : s.heap.IsList l items) (hit : IntsAre items.toList ns) (hb : ns.length + 1 < scanBound)
    (fin : ∀ s2, Filled w s ns s2 → R (.ok (.ret .none)) s2) :
    codeAny (model P w) B (.builtin "set.update.loop" ⟨[.ref s.heap.objs.size, .ref (s.heap.push (set0 w)).objs.size], []⟩) R { s with heap := (s.heap.push (set0 w)).push { cls := .type "list_iterator", data := .fields #[.ref l, .int 0 0] } } := by
  obtain ⟨ol, hol, cl, dl⟩ := id hl
  have lt : l < s.heap.objs.size := Heap.lt_size hol
  have len : items.size = ns.length := by have q := IntsAre.length hit; rwa [Array.length_toList] at q
  have z1 : (s.heap.push (set0 w)).objs.size = s.heap.objs.size + 1 := Heap.size_push ..
  have ne : l ≠ s.heap.objs.size + 1 := Nat.ne_of_lt (Nat.lt_succ_of_lt lt)
  have g0 : (s.heap.push (set0 w)).get? s.heap.objs.size = some (set0 w) := Heap.get?_push_size _ rfl
  have l1 : (s.heap.push (set0 w)).IsList l items := ⟨ol, Heap.get?_push_of_some _ hol, cl, dl⟩
  have vals : ∀ (i : Nat) (v : Value), items[i]? = some v → ∃ k t, ns[i]? = some k ∧ v = .int k t := fun i v hv => by
    have hi : i < ns.length := by rw [← len]; exact (Array.getElem?_eq_some_iff.mp hv).1
    obtain ⟨t, e⟩ := IntsAre.int_at hit i v (by rw [Array.getElem?_toList]; exact hv)
    exact ⟨ns[i], t, List.getElem?_eq_getElem hi, by rw [e, List.getD_eq_getElem?_getD, List.getElem?_eq_getElem hi]; rfl⟩
  have hh1 : B.in1.handled = none := by simp [hh]
  refine set_update_ints (P := P) (Walks.list hh1 _ l (by rw [z1]; exact ne) items).toS s.heap.objs.size (by rw [z1]; exact fun z => (List.mem_cons.mp z).elim (fun e => Nat.ne_of_lt (Nat.lt_succ_self _) e) fun z2 => Nat.ne_of_gt lt (List.mem_singleton.mp z2)) ns len hb vals items.size 0 _ (Nat.sub_zero _) (Nat.zero_le _) ⟨⟨_, Heap.get?_push_size _ rfl, rfl, rfl⟩, l1.push _⟩ ⟨0, Nat.le_refl 0, setR_new_at (Heap.get?_push_of_some _ g0)⟩ ?_
  intro s2 c mv cb R2
  refine fin s2 ⟨s2.heap, s2.toks, c, ?_, R2, by omega, fun b o e => ?_⟩
  · obtain ⟨h2, g2, d2, t2, o2⟩ := s2
    have q1 : g2 = s.gens := mv.gens
    have q2 : d2 = s.drawn := mv.drawn
    have q3 : o2 = s.os := mv.os
    rw [q1, q2, q3]
  · have bl : b < s.heap.objs.size := Heap.lt_size e
    refine mv.heap b o ?_ (Heap.get?_push_of_some _ (Heap.get?_push_of_some _ e))
    rw [z1]
    exact fun z => (List.mem_cons.mp z).elim (fun e => Nat.ne_of_lt bl e) fun z2 => Nat.ne_of_lt (Nat.lt_succ_of_lt bl) (List.mem_singleton.mp z2)
/-- set(xs): a set with the numbers of the list -/
theorem set_of_list {l : Addr} {items : Array Value} (ns : List Int) {Q : Value → Shared → Prop} (hh : A.handled = none) (hl : s.heap.IsList l items) (hit : IntsAre items.toList ns) (hb : ns.length + 1 < scanBound)
    (fin : ∀ s2, Filled w s ns s2 → Q (.ref s.heap.objs.size) s2) : wpAny (model P w) A (call (.type "set") [.ref l]) Q E s := by
  obtain ⟨cc, tl, mro⟩ := F.called_set.mro
  have a1 := F.called_set.made; have a2 := F.called_set.sub; have a3 := F.called_set.notType
  have a4 := F.called_set.canCreate; have a5 := F.typeCall_set_1 (.ref l)
  refine wpAny_call (codeAny_of_tree ?_); show wpAny _ _ (callAny (.type "set") _) _ _ _
  refine wpAny_pure (And.intro (Code.quiet_builtin _ (by decide +kernel)) (codeAny_builtin F.entry_type_call ?_)); rw [Around.under_plain (weight_type_call_type "set" [.ref l] []) rfl]
  repeat (any_goals (first | assumption | wp_step))
  refine codeAny_mono (code_set_led1 (.ref l) (E := E) (Q₁ := fun u s1 => u = .ref s.heap.objs.size ∧ s1 = { s with heap := s.heap.push (set0 w) }) ⟨rfl, rfl⟩) fun r s1 hr => ?_
  cases r with
  | error e => exact hr
  | ok fl =>
    cases fl with
    | ret u =>
      obtain ⟨rfl, rfl⟩ := hr
      have g0 : (s.heap.push (set0 w)).get? s.heap.objs.size = some (set0 w) := Heap.get?_push_size _ rfl
      have ty : Shared.TypeIs { s with heap := s.heap.push (set0 w) } (.ref s.heap.objs.size) "set" := ⟨_, g0, rfl⟩
      have b1 := F.called_set.init.lookup; have b2 := F.called_set.init.bind (.ref s.heap.objs.size)
      repeat (any_goals (first | assumption | wp_step))
      refine codeAny_mono (codeAny_call_builtin (R := wants (fun r s2 => r = .none ∧ Filled w s ns s2) E) F.called_set.init.plain F.entry_set_init (check_set_init_1 ty ?_)) fun r2 s2 hr2 => ?_
      · obtain ⟨⟨k1, k2, k3, k4⟩, hol, cl, nl, dl⟩ := id hl
        simp only at cl dl
        subst cl dl
        have hol1 : (s.heap.push (set0 w)).get? l = some { cls := .type "list", dict := k2, data := .seq items nl, slots := k4 } := Heap.get?_push_of_some _ hol
        have c1 := F.sub_list_set; have c2 := F.sub_list_frozenset
        have c3 : (Value.type "list" == Value.type "dict") = false := by decide
        have l1 : (s.heap.push (set0 w)).IsList l items := ⟨_, hol1, rfl, nl, rfl⟩
        unfold Builtin.«set.__init__» noKeywords Builtin.Frozenset.updateFrom; generalize eP : pyIter = PI
        wp_walk
        subst eP
        refine wpAny_pyIter_list l1 (wpAny_bind (wpAny_runValue ?_))
        refine set_fill (w := w) ns (by simp [hh]) hl hit hb fun s2 fs => ?_
        show wpAny _ _ _ _ _ _
        refine wpAny_pure ?_
        exact wpAny_pure ⟨rfl, fs⟩
      · cases r2 with
        | error e => exact hr2
        | ok fl2 =>
          cases fl2 with
          | ret r =>
            obtain ⟨rfl, fl⟩ := hr2
            obtain ⟨h2, tk, c, rfl, R2, cb, kp⟩ := id fl
            repeat (any_goals (first | assumption | wp_step))
            exact fin _ fl
          | _ => exact hr2.elim
    | _ => exact hr.elim
end
/-- sorted of a set of ints, of any size -/
theorem sorted_setAny {P : Program} {w : World} {A : Around} {E : Value → Shared → Prop} {s : Shared} {a : Addr} {S : Int → Bool} {n : Nat} {Q : Value → Shared → Prop} (sr : SetR w s.heap a S n) (nh : A.handled = none) (big : n ≤ 4000)
    (fin : ∀ s2 b (arr : Array Value) (k : Nat) (ms : List Int), (∀ d u, s.heap.get? d = some u → s2.heap.get? d = some u) → s2.gens = s.gens → s2.os = s.os → s.heap.objs.size ≤ b → s2.heap.get? b = some (seqObj "list" arr k) →
      IntsAre arr.toList ms → ms.Pairwise (· < ·) → (∀ d, d ∈ ms ↔ S d = true) → ms.length = n → Q (.ref b) s2) : wpAny (model P w) A (call (.builtin "sorted") [.ref a]) Q E s := by
  obtain ⟨ob, en, pl, tb, f1, f2, f3, f4, f5, f6, f7, f8, f9, f10, f11⟩ := sr
  refine Calls.call_function_entry kind_sorted plain_sorted entry_sorted (args_sorted1 (.ref a)) ?_
  unfold Builtin.«sorted»
  apply wpAny_bind (m := checkCount "sorted" 1 1 _)
  apply wpAny_pure
  apply wpAny_bind
  apply collect_set (A := A.in1) nh ⟨ob, f1, f2.1, f3⟩ f8 f7 f10 f11
  intro t1 us old newer tg to perm
  have ul : us.length = n := perm.length_eq.trans (by rw [List.length_map, Array.length_toList, f9])
  have small : us.length ≤ sizeLine := by rw [ul, sizeLine_eq]; omega
  have isI : IntsAre us (us.map Builtin.Re.reRawOf) := ints_of us (by
    intro v hv
    obtain ⟨e, he, rfl⟩ := List.mem_map.mp (perm.mem_iff.mp hv)
    obtain ⟨i, j, h1, _⟩ := f4 e he
    exact ⟨i, j, h1⟩)
  have keys : (us.map Builtin.Re.reRawOf).Perm (en.toList.map L2.keyOf) := by
    have z := perm.map Builtin.Re.reRawOf
    rwa [List.map_map] at z
  apply wpAny_bind
  apply wpAny_newList _ (by rw [ul, sizeLine_eq]; omega)
  have hb : (t1.heap.push (seqObj "list" us.toArray 0)).get? t1.heap.objs.size = some (seqObj "list" us.toArray 0) := Heap.get?_push_size t1.heap rfl
  apply wpAny_bind
  apply wpAny_holding
  refine wpAny_call_entry slot_list_sort ⟨_, hb, rfl⟩ entry_list_sort (list_sort_treeAny hb isI small fun arr ms z1 z2 z3 => ⟨_, rfl, ?_⟩) (args_list_sort _)
  obtain ⟨k, hk⟩ := sortedHeap_at (vs := us) (out := arr) hb
  have pm : ms.Perm (en.toList.map L2.keyOf) := z2.trans keys
  have nd : ms.Nodup := pm.nodup_iff.mpr f5
  refine wpAny_pure ⟨_, rfl, fin _ t1.heap.objs.size arr k ms ?_ tg to newer hk z1 (lt_of_le_nodup ms z3 nd) (fun d => (pm.mem_iff).trans (f6 d).symm) ?_⟩
  · intro d u hd
    have lt := Heap.lt_size (old d u hd)
    have s1 := sortedHeap_old (h := t1.heap.push (seqObj "list" us.toArray 0)) (vs := us) (out := arr) (Nat.ne_of_lt lt) (by rw [size_push']; exact Nat.lt_succ_of_lt lt)
    exact s1.trans (Heap.get?_push_of_some _ (old d u hd))
  · rw [pm.length_eq, List.length_map, Array.length_toList, f9]
/-! ### the numbers of a list, each once, ascending -/
def insU (x : Int) : List Int → List Int
  | [] => [x]
  | y :: r => if x < y then x :: y :: r else if x = y then y :: r else y :: insU x r
def sortU (ns : List Int) : List Int := ns.foldr insU []
theorem mem_insU {x k : Int} : ∀ {l : List Int}, k ∈ insU x l ↔ k = x ∨ k ∈ l
  | [] => by simp [insU]
  | y :: r => by
    unfold insU
    split
    · simp
    · split
      · rename_i h
        rw [h]
        simp
      · rw [List.mem_cons, mem_insU, List.mem_cons]
        exact ⟨fun h => by rcases h with h | h | h <;> simp [h], fun h => by rcases h with h | h | h <;> simp [h]⟩
theorem mem_sortU {k : Int} : ∀ {ns : List Int}, k ∈ sortU ns ↔ k ∈ ns
  | [] => by simp [sortU]
  | x :: r => by
    show k ∈ insU x (sortU r) ↔ _
    rw [mem_insU, mem_sortU, List.mem_cons]
theorem asc_insU {x : Int} : ∀ {l : List Int}, l.Pairwise (· < ·) → (insU x l).Pairwise (· < ·)
  | [], _ => by simp [insU]
  | y :: r, h => by
    obtain ⟨h1, h2⟩ := List.pairwise_cons.mp h
    unfold insU
    split
    · rename_i c
      refine List.pairwise_cons.mpr ⟨fun z hz => ?_, h⟩
      rcases List.mem_cons.mp hz with e | hz
      · omega
      · have := h1 z hz
        omega
    · split
      · exact h
      · refine List.pairwise_cons.mpr ⟨fun z hz => ?_, asc_insU h2⟩
        rcases mem_insU.mp hz with e | hz
        · omega
        · exact h1 z hz
theorem asc_sortU : ∀ ns : List Int, (sortU ns).Pairwise (· < ·)
  | [] => List.Pairwise.nil
  | x :: r => asc_insU (asc_sortU r)
theorem asc_one : ∀ {l m : List Int}, l.Pairwise (· < ·) → m.Pairwise (· < ·) → (∀ k, k ∈ l ↔ k ∈ m) → l = m
  | [], [], _, _, _ => rfl
  | [], y :: m, _, _, h => absurd ((h y).mpr List.mem_cons_self) (by simp)
  | x :: l, [], _, _, h => absurd ((h x).mp List.mem_cons_self) (by simp)
  | x :: l, y :: m, p, q, h => by
    obtain ⟨p1, p2⟩ := List.pairwise_cons.mp p
    obtain ⟨q1, q2⟩ := List.pairwise_cons.mp q
    have e : x = y := by
      rcases List.mem_cons.mp ((h x).mp List.mem_cons_self) with e | e
      · exact e
      · rcases List.mem_cons.mp ((h y).mpr List.mem_cons_self) with e2 | e2
        · exact e2.symm
        · have := q1 x e
          have := p1 y e2
          omega
    subst e
    rw [asc_one p2 q2 fun k => ?_]
    constructor
    · intro hk
      rcases List.mem_cons.mp ((h k).mp (List.mem_cons_of_mem _ hk)) with e | e
      · have := p1 k hk
        omega
      · exact e
    · intro hk
      rcases List.mem_cons.mp ((h k).mpr (List.mem_cons_of_mem _ hk)) with e | e
      · have := q1 k hk
        omega
      · exact e
theorem vals_nums : ∀ {us : List Value} {ns : List Int}, IntsAre us ns → Vals (ns.map V.int) us
  | _, _, .nil => .nil
  | _, _, .cons k t h => .cons ⟨t, rfl⟩ (vals_nums h)
def tSortSet (K : PySem.W.Frag) (ta : TE) : TE := fun σ H Q => ta σ H fun x H1 => ∃ (l : Addr) (ns : List Int), x = .ref l ∧ SqL K H1 l (ns.map V.int) ∧ ns.length ≤ 2000 ∧ ∀ p, H1 p = none → Q (.ref p) (upd H1 p (.lst ((sortU ns).map V.int)))
theorem pe_sortSet {X : Cx} {a : Expr} {ta : TE} {p p2 q pos : Pos} (hg : Gl X "sorted") (hm : X.mg "sorted" = none) (hg2 : Gl X "set") (hm2 : X.mg "set" = none) (ha : PE X a ta) (hc : X.calm = true)
    (na : starEach [a] X.env = (false, eval a X.env) :: starEach [] X.env) : PE X (.Call (.Name "sorted" p) [.Call (.Name "set" p2) [a] [] q] [] pos) (tSortSet X.K ta) := by
  refine ⟨fun pins s σ H Q I h => Call_ (ld_blt I hg hm boot_sorted (PyProof.Rows.callWith_builtin1 (PyProof.Rows.args_cons ?_ rfl) rfl rfl))⟩
  refine Call_ (ld_blt I hg2 hm2 boot_set (PyProof.Rows.callWith_type1 (PyProof.Rows.args_cons (thn (ha.run pins s σ H _ I h) fun v s1 ⟨x, H1, I1, r1, q1⟩ => PyProof.Rows.args_nil ?_) na) na rfl))
  obtain ⟨l, ns, rfl, hq, hl, q1⟩ := q1
  cases r1
  obtain ⟨its, r, pl, hz⟩ := I1.list hq
  have hlen : its.toArray.size = ns.length := by rw [List.size_toArray, ← r.length, List.length_map]
  refine set_of_list ns (I1.ok.hd hc) pl.isList (by simpa using RZ.intsAre_vals r) (by unfold scanBound; omega) fun s2 ⟨h2, tk, c, e2, R2, cb, kp⟩ => PyProof.Rows.args_nil ?_
  subst e2
  have I2 : Inv X pins σ H1 { s1 with heap := h2, toks := tk } := I1.kept kp
  refine sorted_setAny R2 (I1.ok.hd hc) (by omega) fun s3 b out c2 ms k3 g3 o3 hb ho hi asc mem hn => ?_
  have em : ms = sortU ns := asc_one asc (asc_sortU ns) fun k => by rw [mem, mem_sortU, decide_eq_true_eq]
  subst em
  have nb : H1 b = none := I2.hok.fresh hb
  have lb : ((sortU ns).map V.int).length ≤ sizeLine := by rw [List.length_map, hn, sizeLine_eq]; omega
  have vb : Vals ((sortU ns).map V.int) out.toList := vals_nums hi
  exact ⟨.ref b, upd H1 b (.lst ((sortU ns).map V.int)), I2.call' (ch := []) o3 (Un.laid k3 hb nb) (I2.hok.laid k3 hb ⟨lb, out.toList, c2, vb, ho⟩) (by rw [g3]; exact I2.bare) (fun _ z => nomatch z), rfl, q1 b nb⟩
section
variable {X : Cx} {C : Fx} {W : WX} {a b e : Expr} {pos : Pos} {fa fb fe : Stt → Res PV}
def oSortSet (fe : Stt → Res PV) : Stt → Res MO := fun s => (fe s).bind fun p s1 => match p with
  | .lst l => match allInt l with
    | some ns => if ns.length ≤ 2000 then .ok (.lst ((sortU ns).map PV.int)) s1 else .stuck
    | none => .stuck
  | _ => .stuck
theorem do_sortSet {p p2 q : Pos} (hK : X.K = C.K) (hc : X.calm = true) (he : DV X C W e fe) (hg : Gl X "sorted") (hm : X.mg "sorted" = none) (hg2 : Gl X "set") (hm2 : X.mg "set" = none) (na : starEach [e] X.env = (false, eval e X.env) :: starEach [] X.env := by rfl) :
    DO X C W (.Call (.Name "sorted" p) [.Call (.Name "set" p2) [e] [] q] [] pos) (oSortSet fe) := by
  obtain ⟨te, pe, qe⟩ := he.pr
  refine ⟨_, pe_sortSet hg hm hg2 hm2 pe hc na, fun F A H σ s Q o pp => ?_⟩
  refine qe F A H σ s _ o (PostO.seq pp fun q1 s1 v1 F1 A1 H1 _ o1 st1 r1 p1 => ?_)
  cases r1 with
  | @lst a xs l h2 h3 =>
    simp only at p1
    cases h : allInt l with
    | none => rw [h] at p1; exact p1.elim
    | some ns =>
      rw [h] at p1
      simp only at p1
      split at p1
      · rename_i hl
        rw [allInt_eq h] at h3
        have := h3.ints
        subst this
        refine ⟨a, ns, rfl, .of (o1.sub _ _ h2), hl, fun q hq => ?_⟩
        obtain ⟨o2, st2, f2⟩ := o1.fresh (u := .lst ((sortU ns).map V.int)) (m := .lst ((sortU ns).map PV.int)) hq ⟨rfl, _, upd_same, Rps.of_ints _⟩
        exact p1 q _ _ _ o2 st2 f2
      · exact p1.elim
  | _ => exact p1.elim
end
end PL
/-! PLD: dicts by numbers: {}, d.get(k, x), d[k] = v; lists made by a walk over such a dict's keys (it is locked then: PV.dcv). -/
namespace PL
open PySem PySem.Spec PyProof.Rows L2
/-! ### tables -/
def valP (kvs : List (Key × PV)) (k : Key) : Option PV := (kvs.find? fun kv => decide (kv.1 = k)).map (·.2)
def putKP (kvs : List (Key × PV)) (k : Key) (v : PV) : List (Key × PV) :=
  if (kvs.any fun kv => decide (kv.1 = k)) = true then kvs.map (fun kv => if kv.1 = k then (kv.1, v) else kv) else kvs ++ [(k, v)]
inductive KR (C : Fx) (F : Hp) : List (Key × V) → List (Key × PV) → Prop
  | nil : KR C F [] []
  | cons {k : Key} {v : V} {p : PV} {r : List (Key × V)} {l : List (Key × PV)} : Rp C F v p → KR C F r l → KR C F ((k, v) :: r) ((k, p) :: l)
section
variable {C : Fx} {F F' : Hp}
theorem KR.of : ∀ {r : List (Key × V)} {l : List (Key × PV)}, r.map (·.1) = l.map (·.1) → Rps C F (r.map (·.2)) (l.map (·.2)) → KR C F r l
  | [], [], _, _ => .nil
  | [], _ :: _, e, _ => by cases e
  | _ :: _, [], e, _ => by cases e
  | (k, v) :: r, (k2, p) :: l, e, h => by
    have e : k :: r.map (·.1) = k2 :: l.map (·.1) := e
    obtain ⟨e1, e2⟩ := List.cons.inj e
    subst e1
    cases h with
    | cons a b => exact .cons a (KR.of e2 b)
theorem KR.zip : ∀ {r : List (Key × V)} {vs : List PV}, Rps C F (r.map (·.2)) vs → KR C F r ((r.map (·.1)).zip vs)
  | [], _, h => by
    cases h
    exact .nil
  | (k, v) :: r, _, h => by
    cases h with
    | cons a b => exact .cons a (KR.zip b)
theorem KR.keys {r : List (Key × V)} {l : List (Key × PV)} (h : KR C F r l) : r.map (·.1) = l.map (·.1) := by
  induction h with
  | nil => rfl
  | cons _ _ ih => rw [List.map_cons, List.map_cons, ih]
theorem KR.vals {r : List (Key × V)} {l : List (Key × PV)} (h : KR C F r l) : Rps C F (r.map (·.2)) (l.map (·.2)) := by
  induction h with
  | nil => exact .nil
  | cons a _ ih => exact .cons a ih
theorem KR.length {r : List (Key × V)} {l : List (Key × PV)} (h : KR C F r l) : r.length = l.length := by
  induction h with
  | nil => rfl
  | cons _ _ ih => rw [List.length_cons, List.length_cons, ih]
theorem KR.mono (sm : Same F F') {r : List (Key × V)} {l : List (Key × PV)} (h : KR C F r l) : KR C F' r l := by
  induction h with
  | nil => exact .nil
  | cons a _ ih => exact .cons (a.mono sm) ih
theorem KR.val {r : List (Key × V)} {l : List (Key × PV)} (h : KR C F r l) (k : Key) : (valV r k = none ∧ valP l k = none) ∨ ∃ v p, valV r k = some v ∧ valP l k = some p ∧ Rp C F v p := by
  induction h with
  | nil => exact .inl ⟨rfl, rfl⟩
  | @cons k2 v p r l a _ ih =>
    by_cases e : k2 = k
    · exact .inr ⟨v, p, by simp [valV, e], by simp [valP, e], a⟩
    · simpa [valV, valP, e] using ih
theorem KR.any {r : List (Key × V)} {l : List (Key × PV)} (h : KR C F r l) (k : Key) : (r.any fun kv => decide (kv.1 = k)) = l.any fun kv => decide (kv.1 = k) := by
  induction h with
  | nil => rfl
  | cons _ _ ih => rw [List.any_cons, List.any_cons, ih]
theorem KR.putM (k : Key) {v : V} {p : PV} (a : Rp C F v p) {r : List (Key × V)} {l : List (Key × PV)} (h : KR C F r l) : KR C F (r.map fun kv => if kv.1 = k then (kv.1, v) else kv) (l.map fun kv => if kv.1 = k then (kv.1, p) else kv) := by
  induction h with
  | nil => exact .nil
  | @cons k2 v2 p2 r l b _ ih =>
    rw [List.map_cons, List.map_cons]
    by_cases e : k2 = k
    · simp only [e, if_true]
      exact .cons a ih
    · simp only [e, if_false]
      exact .cons b ih
theorem KR.putA (k : Key) {v : V} {p : PV} (a : Rp C F v p) {r : List (Key × V)} {l : List (Key × PV)} (h : KR C F r l) : KR C F (r ++ [(k, v)]) (l ++ [(k, p)]) := by
  induction h with
  | nil => exact .cons a .nil
  | cons b _ ih => exact .cons b ih
theorem KR.put {r : List (Key × V)} {l : List (Key × PV)} (h : KR C F r l) (k : Key) {v : V} {p : PV} (a : Rp C F v p) : KR C F (putK r k v) (putKP l k p) := by
  unfold putK putKP
  rw [h.any k]
  split
  · exact h.putM k a
  · exact h.putA k a
end
def keyP : Key → PV
  | .inl i => .int i
  | .inr x => .str x
theorem keyP_rp {C : Fx} {F : Hp} (k : Key) : Rp C F (kV k) (keyP k) := by
  cases k with
  | inl i => exact .int i
  | inr x => exact .str x
/-! ### the rules -/
section
variable {X : Cx} {C : Fx} {W : WX} {e f v : Expr} {pos : Pos} {fk fv fz fd : Stt → Res PV}
def oDctN : Stt → Res MO := fun s => .ok (.dct []) s
theorem do_dctN : DO X C W (.Dict [] [] pos) oDctN :=
  ⟨_, pe_dnewK, fun F A H σ s Q o p q hq => by
    obtain ⟨o2, st2, f2⟩ := o.fresh (u := .dK []) (m := .dct []) hq ⟨rfl, [], upd_same, rfl, .nil⟩
    exact p q _ _ _ o2 st2 f2⟩
/-- d.get(k, x) -/
def eGetD (i : Nat) (fk fz : Stt → Res PV) : Stt → Res PV := fun s => match getM s i with
  | some (_, .dct _) => (fk s).bind fun q s1 => (fz s1).bind fun z s2 => match q, getM s2 i with
    | .int j, some (_, .dct kvs) => .ok ((valP kvs (.inl j)).getD z) s2
    | _, _ => .stuck
  | _ => .stuck
theorem dv_getD (i : Nat) {x : Str} {p apos cpos : Pos} (hu : X.A.units + 1 < cLine) (hk : DV X C W e fk) (hz : DV X C W f fz) (hN : X.N[i]? = some x := by rfl) (hv : Vis X.env.scope x := by first | exact Or.inl rfl | exact Or.inr (Or.inl rfl) | exact Or.inr (Or.inr rfl)) (hd : (x == ("__debug__" : Str)) = false := by decide)
    (hcd : (x == ("__classdict__" : Str)) = false := by decide) (m : M2 X (.Name x p) "get" apos e f cpos := by exact ⟨rfl, rfl, rfl, rfl⟩) : DV X C W (.Call (.Attribute (.Name x p) "get" apos) [e, f] [] cpos) (eGetD i fk fz) := by
  obtain ⟨tk, pk, qk⟩ := hk.pr
  obtain ⟨tz, pz, qz⟩ := hz.pr
  refine ⟨_, pe_dget2 hu (pe_var hN hv hd hcd) pk pz m, fun F A H σ s Q o pp => ?_⟩
  unfold eGetD at pp
  cases e0 : getM s i with
  | none => rw [e0] at pp; exact pp.elim
  | some km =>
    obtain ⟨k, mo⟩ := km
    rw [e0] at pp
    cases mo with
    | dct kvs =>
      obtain ⟨_, h1, h2⟩ := mut_at o e0
      obtain ⟨_, ks, hx, _⟩ := h2
      refine ⟨_, h1, _, rfl, .inl ⟨ks, .inl hx⟩, ?_⟩
      have pp : Post C W (RV C) F A H σ ((fk s).bind fun q s1 => (fz s1).bind fun z s2 => match q, getM s2 i with
        | .int j, some (_, .dct kvs) => .ok ((valP kvs (.inl j)).getD z) s2
        | _, _ => .stuck) Q := pp
      refine qk F A H σ s _ o (pp.seq fun q s1 v1 F1 A1 H1 _ o1 st1 r1 p1 => ?_)
      refine qz F1 A1 H1 σ s1 _ o1 (p1.seq fun z s2 v2 F2 A2 H2 _ o2 st2 r2 p2 => ?_)
      cases q with
      | int j =>
        cases e2 : getM s2 i with
        | none => simp only [e2] at p2; exact p2.elim
        | some km2 =>
          obtain ⟨k2, mo2⟩ := km2
          simp only [e2] at p2
          cases mo2 with
          | dct kvs2 =>
            obtain ⟨_, h3, h4⟩ := mut_at o2 e2
            rw [h1] at h3
            have ea : adr σ C k = adr σ C k2 := V.ref.inj (Option.some.inj (Option.some.inj h3))
            cases r1
            obtain ⟨_, ks2, hx2, hk2, hr2⟩ := h4
            have kr := KR.of hk2 hr2
            refine ⟨_, by rw [ea]; exact DGet.k (k := .inl j) hx2, ?_⟩
            simp only at p2
            rcases kr.val (.inl j) with ⟨n1, n2⟩ | ⟨v, p, n1, n2, rr⟩
            · rw [n1]
              rw [n2] at p2
              exact Post.now o2 p2 r2
            · rw [n1]
              rw [n2] at p2
              exact Post.now o2 p2 rr
          | _ => exact p2.elim
      | _ => exact p2.elim
    | _ => exact pp.elim
/-- d[k] = v -/
def gPutD (i : Nat) (fk fv : Stt → Res PV) : Stt → Fl := fun s => (fv s).fl fun p s1 => match getM s1 i with
  | some (_, .dct _) => (fk s1).fl fun q s2 => match q, getM s2 i with
    | .int j, some (k, .dct kvs) => if kvs.length < 16777216 then .nx (setK s2 k (.dct (putKP kvs (.inl j) p))) else .stuck
    | _, _ => .stuck
  | _ => .stuck
theorem ds_putD (i : Nat) {x : Str} {p pos' : Pos} (hu : X.A.units + 1 < cLine) (hk : DV X C W e fk) (hv : DV X C W v fv) (hN : X.N[i]? = some x := by rfl) (hvis : Vis X.env.scope x := by first | exact Or.inl rfl | exact Or.inr (Or.inl rfl) | exact Or.inr (Or.inr rfl)) (hd : (x == ("__debug__" : Str)) = false := by decide)
    (hcd : (x == ("__classdict__" : Str)) = false := by decide) (hs : swapsWith v (some (.Subscript (.Name x p) e pos')) pos.line X.env = pure false := by rfl) : DS X C W (.Assign [.Subscript (.Name x p) e pos'] v pos) (gPutD i fk fv) := by
  obtain ⟨tk, pk, qk⟩ := hk.pr
  obtain ⟨tv, pv, qv⟩ := hv.pr
  refine ⟨_, ps_dput hu (pe_var hN hvis hd hcd) pk pv hs, fun F A H σ s D o pp => ?_⟩
  refine qv F A H σ s _ o (PostS.seq pp fun pv s1 xv F1 A1 H1 _ o1 st1 r1 p1 => ?_)
  cases e0 : getM s1 i with
  | none => rw [e0] at p1; exact p1.elim
  | some km =>
    obtain ⟨k, mo⟩ := km
    rw [e0] at p1
    cases mo with
    | dct kvs =>
      obtain ⟨_, g0, _⟩ := mut_at o1 e0
      refine ⟨_, g0, ?_⟩
      refine qk F1 A1 H1 σ s1 _ o1 (PostS.seq p1 fun q s2 xq F2 A2 H2 _ o2 st2 r2 p2 => ?_)
      cases q with
      | int j =>
        cases e2 : getM s2 i with
        | none => simp only [e2] at p2; exact p2.elim
        | some km2 =>
          obtain ⟨k2, mo2⟩ := km2
          simp only [e2] at p2
          cases mo2 with
          | dct kvs2 =>
            simp only at p2
            split at p2
            · rename_i hl
              obtain ⟨g1, g2, g3⟩ := mut_at o2 e2
              obtain ⟨hfp, ks2, hx2, hk2, hr2⟩ := g3
              rw [g0] at g2
              have ea : adr σ C k = adr σ C k2 := V.ref.inj (Option.some.inj (Option.some.inj g2))
              cases r2
              have kr := KR.of hk2 hr2
              have kr2 := kr.put (.inl j) (r1.mono st2.s1)
              obtain ⟨o3, st3⟩ := o2.upd (H2 := upd H2 (adr σ C k2) (.dK (putK ks2 (.inl j) xv))) (m2 := .dct (putKP kvs2 (.inl j) pv)) g1 (fun b hb => by
                rw [hfp] at hb
                exact upd_ne (by simpa using hb)) (fun b hb => by
                rw [hfp] at hb
                have : b = adr σ C k2 := by simpa using hb
                rw [this, upd_same]
                simp) ⟨hfp, _, upd_same, kr2.keys, kr2.vals⟩
              refine ⟨_, _, rfl, by rw [ea]; exact DPut.k (k := .inl j) hx2 (by rw [kr.length, sizeLine_eq]; exact hl), ?_⟩
              exact p2 _ _ _ _ o3 st3
            · exact p2.elim
          | _ => exact p2.elim
      | _ => exact p2.elim
    | _ => exact p1.elim
/-- d[k], d a locked dict -/
def eIxD (fd fk : Stt → Res PV) : Stt → Res PV := fun s => (fd s).bind fun d s1 => (fk s1).bind fun q s2 => match d, q with
  | .dcv ks vs, .int j => Res.opt s2 (valP (ks.zip vs) (.inl j))
  | _, _ => .stuck
theorem dv_ixD (hu : X.A.units + 1 < cLine) (hd : DV X C W e fd) (hk : DV X C W f fk) (hs : NoSl f := by intro _ _; rfl) : DV X C W (.Subscript e f pos) (eIxD fd fk) := by
  obtain ⟨td, pd, qd⟩ := hd.pr
  obtain ⟨tk, pk, qk⟩ := hk.pr
  refine ⟨_, pe_dget hu pd pk hs, fun F A H σ s Q o pp => ?_⟩
  refine qd F A H σ s _ o (pp.seq fun d s1 v1 F1 A1 H1 _ o1 st1 r1 p1 => ?_)
  refine qk F1 A1 H1 σ s1 _ o1 (p1.seq fun q s2 v2 F2 A2 H2 _ o2 st2 r2 p2 => ?_)
  cases r1 with
  | @dcv a od kv ks vs h1 h2 h3 =>
    cases r2 with
    | int j =>
      obtain ⟨z, e2, kk⟩ := Post.opt p2
      subst h2
      have kr := (KR.zip h3).mono st2.s1
      rcases kr.val (.inl j) with ⟨n1, n2⟩ | ⟨v, p, n1, n2, rr⟩
      · rw [n2] at e2
        cases e2
      · rw [n2] at e2
        cases e2
        exact ⟨a, v, rfl, .inl ⟨kv, .inl j, .inr ⟨od, o2.sub _ _ (st2.s1 _ _ h1)⟩, rfl, n1.symm⟩, kk v F2 A2 H2 o2 .refl rr⟩
    | _ => exact p2.elim
  | _ => exact p2.elim
/-- the keys of a locked dict -/
def iDcv (fd : Stt → Res PV) : Stt → Res (List PV) := fun s => (fd s).bind fun d s1 => match d with
  | .dcv ks _ => .ok (ks.map keyP) s1
  | _ => .stuck
theorem di_dcv {tg : Expr} (hd : DV X C W e fd) : DI X C W tg e (iDcv fd) := by
  obtain ⟨te, pe, qe⟩ := hd.pr
  refine ⟨_, pi_keys pe, fun F A H σ s Q o p => ?_⟩
  refine qe F A H σ s _ o (p.seq fun a s1 v F1 A1 H1 _ o1 st1 r1 p1 => ?_)
  cases r1 with
  | @dcv b od kv ks vs h1 h2 h3 =>
    refine ⟨b, od, rfl, .inl ⟨kv, o1.sub _ _ h1, Post.now o1 p1 ?_⟩⟩
    subst h2
    refine ⟨fun H => H b = some (.frz od (.dK kv)), _, by rw [List.length_map, List.length_map]; exact walk_keys, fun H2 sm => sm _ _ h1, ?_⟩
    rintro i F2 A2 H2 σ2 s2 x H3 p o2 sm ⟨rfl, k, v, hk, rfl⟩ hp
    rw [List.getElem?_map, List.getElem?_map, hk] at hp
    cases hp
    exact ⟨F2, o2, .refl, keyP_rp k⟩
  | _ => exact p1.elim
/-! ### a list made by a walk over the keys -/
def isVal : Option SV → Bool
  | some (.own _) => false
  | some (.bor _) => false
  | _ => true
def eCompD (i : Nat) (fo : Stt → Res MO) : Stt → Res PV := fun s => match s.ro[i]? with
  | some (some (.own (.dct kvs))) => if s.mu.isEmpty = true ∧ (s.ro.set i none).all isVal = true then match fo ⟨s.ro.set i (some (.val (.dcv (kvs.map (·.1)) (kvs.map (·.2))))), []⟩ with
    | .ok (.lst acc) _ => match allInt acc with
      | some _ => .ok (.lst acc) s
      | none => .stuck
    | _ => .stuck
    else .stuck
  | _ => .stuck
theorem ints_rps (F : Hp) (ns : List Int) : Rps C F (ns.map V.int) (ns.map PV.int) := by
  induction ns with
  | nil => exact .nil
  | cons n r ih => exact .cons (.int n) ih
theorem compD_den (i : Nat) {fo : Stt → Res MO} {te : TE} (qe : ∀ F A H σ s Q, OkF C F A H σ s → PostO C W F A H σ (fo s) Q → te σ H Q) : ∀ F A H σ s Q, OkF C F A H σ s → Post C W (RV C) F A H σ (eCompD i fo s) Q → tLockE te σ H Q := by
  intro F A H σ s Q o pp
  unfold eCompD at pp
  split at pp
  · rename_i kvs hro
    split at pp
    · rename_i hc
      obtain ⟨hmu, hval⟩ := hc
      have mu0 : s.mu = [] := List.isEmpty_iff.mp hmu
      have nb0 : C.nb = 0 := by rw [← o.nb, mu0]; rfl
      obtain ⟨p, hσ, hfp, ks, hx, hk, hr⟩ := o.own i _ hro
      have kr := KR.of hk hr
      have Fp : F p = none := (o.free i p (by rw [hfp]; exact List.mem_cons_self)).1
      have il : i < s.ro.length := (List.getElem?_eq_some_iff.mp hro).1
      have noB : ∀ b, ¬ Bor C b := fun b ⟨k, hk, _⟩ => by rw [nb0] at hk; cases hk
      have only : ∀ (j : Nat) (x : SV), s.ro[j]? = some (some x) → j ≠ i → ∃ v, x = .val v := fun j x e ne => by
        have e2 : (s.ro.set i none)[j]? = some (some x) := by rw [List.getElem?_set_ne (Ne.symm ne)]; exact e
        have z := List.all_eq_true.mp hval _ (List.mem_of_getElem? e2)
        cases x with
        | val v => exact ⟨v, rfl⟩
        | own m => cases z
        | bor k => cases z
      cases hf : fo ⟨s.ro.set i (some (.val (.dcv (kvs.map (·.1)) (kvs.map (·.2))))), []⟩ with
      | ex c v s2 => rw [hf] at pp; exact pp.elim
      | stuck => rw [hf] at pp; exact pp.elim
      | ok mo s2 =>
        rw [hf] at pp
        cases mo with
        | lst acc =>
          simp only at pp
          cases hi : allInt acc with
          | none => rw [hi] at pp; exact pp.elim
          | some ns =>
            rw [hi] at pp
            simp only at pp
            refine ⟨p, .dK ks, hx, trivial, fun od => ?_⟩
            have sF : Same F (upd F p (.frz od (.dK ks))) := fun b x e => by rw [upd_ne (ne_of_none e Fp)]; exact e
            have o' : OkF C (upd F p (.frz od (.dK ks))) (fun _ => []) (upd H p (.frz od (.dK ks))) σ ⟨s.ro.set i (some (.val (.dcv (kvs.map (·.1)) (kvs.map (·.2))))), []⟩ := by
              refine ⟨by show _ = (s.ro.set i _).length; rw [List.length_set]; exact o.len, fun b x e => ?_, fun j v e => ?_, fun j m e => ?_, nb0.symm, fun j k e => ?_, fun k m e => ?_, fun j b hb => ?_, fun j k b hb => ?_, fun k b hk => ?_, fun k j b hk => ?_, ⟨o.ext.1.trans sF, fun q hq hz => ?_⟩⟩
              · by_cases hb : b = p
                · subst hb
                  rw [upd_same] at e ⊢
                  exact e
                · rw [upd_ne hb] at e ⊢
                  exact o.sub b x e
              · by_cases hj : j = i
                · subst hj
                  rw [List.getElem?_set_self il] at e
                  cases e
                  exact ⟨_, hσ, .dcv upd_same hk (hr.mono sF)⟩
                · rw [List.getElem?_set_ne (Ne.symm hj)] at e
                  obtain ⟨u, h1, h2⟩ := o.val j v e
                  exact ⟨u, h1, h2.mono sF⟩
              · by_cases hj : j = i
                · subst hj
                  rw [List.getElem?_set_self il] at e
                  cases e
                · rw [List.getElem?_set_ne (Ne.symm hj)] at e
                  obtain ⟨v, hv⟩ := only j _ e hj
                  cases hv
              · by_cases hj : j = i
                · subst hj
                  rw [List.getElem?_set_self il] at e
                  cases e
                · rw [List.getElem?_set_ne (Ne.symm hj)] at e
                  obtain ⟨v, hv⟩ := only j _ e hj
                  cases hv
              · simp at e
              · cases hb
              · cases hb
              · rw [nb0] at hk; cases hk
              · rw [nb0] at hk; cases hk
              · obtain ⟨h0, ps, h1, h2, h3⟩ := o.ext.2 q hq hz
                have np : C.cl (tabKey q) ≠ p := fun z => by rw [z, hx] at h1; cases h1
                refine ⟨by rw [upd_ne np]; exact h0, ps, by rw [upd_ne np]; exact h1, h2, fun pos cv hc => ?_⟩
                obtain ⟨c, e1, e2⟩ := h3 pos cv hc
                exact ⟨c, e1, sF _ _ e2⟩
            refine qe _ _ _ σ _ _ o' ?_
            rw [hf]
            intro q F2 A2 H2 o2 st2 fr
            obtain ⟨fp, ⟨rfl, xs, hq, hrs⟩, hfree⟩ := fr
            obtain ⟨k1, k2, k3, k4⟩ := hfree q List.mem_cons_self
            have F2p : F2 p = some (.frz od (.dK ks)) := st2.s1 _ _ upd_same
            have H2p := o2.sub _ _ F2p
            have noA : ∀ b, ¬ OwnA (fun _ : Nat => ([] : List Addr)) b := fun b ⟨j, z⟩ => by cases z
            have q0 : upd H p (.frz od (.dK ks)) q = none := by
              rcases k4 with z | z
              · exact z
              · exact absurd z (noA q)
            have qp : q ≠ p := fun z => by rw [z, upd_same] at q0; cases q0
            have Hq : H q = none := by rw [upd_ne qp] at q0; exact q0
            rw [allInt_eq hi] at hrs pp
            obtain rfl : xs = ns.map V.int := hrs.ints
            refine ⟨H2p, ?_⟩
            have sF3 : Same F (upd (fun b => if b = p then none else F2 b) q (.lst (ns.map V.int))) := fun b x e => by
              have bp : b ≠ p := fun z => by rw [z, Fp] at e; cases e
              have bq : b ≠ q := fun z => by rw [z] at e; rw [o.sub _ _ e] at Hq; cases Hq
              rw [upd_ne bq]
              show (if b = p then none else F2 b) = _
              rw [if_neg bp]
              exact st2.s1 _ _ (sF _ _ e)
            refine pp (.ref q) (upd (fun b => if b = p then none else F2 b) q (.lst (ns.map V.int))) A (upd H2 p (.dK ks)) ?_ ?_ (.lst upd_same (ints_rps _ _))
            · refine ⟨o.len, fun b x e => ?_, fun j v e => ?_, fun j m e => ?_, o.nb, fun j k e => ?_, fun k m e => ?_, fun j b hb => ?_, o.dis, fun k b hk => ?_, fun k j b hk => ?_, ⟨o.ext.1.trans sF3, fun t ht hz => ?_⟩⟩
              · by_cases hb : b = q
                · subst hb
                  rw [upd_same] at e
                  rw [upd_ne qp, ← e]
                  exact hq
                · rw [upd_ne hb] at e
                  have e : (if b = p then none else F2 b) = some x := e
                  split at e
                  · cases e
                  · rename_i bp
                    rw [upd_ne bp]
                    exact o2.sub _ _ e
              · obtain ⟨u, h1, h2⟩ := o.val j v e
                exact ⟨u, h1, h2.mono sF3⟩
              · by_cases hj : j = i
                · subst hj
                  rw [hro] at e
                  cases e
                  exact ⟨p, hσ, hfp, ks, upd_same, hk, hr.mono sF3⟩
                · obtain ⟨v, hv⟩ := only j _ e hj
                  cases hv
              · by_cases hj : j = i
                · subst hj
                  rw [hro] at e
                  cases e
                · obtain ⟨v, hv⟩ := only j _ e hj
                  cases hv
              · rw [mu0] at e
                simp at e
              · obtain ⟨h1, h2⟩ := o.free j b hb
                have bq : b ≠ q := fun z => h2 (z ▸ Hq)
                refine ⟨?_, ?_⟩
                · rw [upd_ne bq]
                  show (if b = p then none else F2 b) = none
                  split
                  · rfl
                  · rename_i bp
                    cases z : F2 b with
                    | none => rfl
                    | some y =>
                      rcases st2.s2 b (by rw [z]; simp) with a | a | a
                      · rw [upd_ne bp] at a
                        exact absurd h1 a
                      · rw [upd_ne bp] at a
                        exact absurd a h2
                      · exact absurd a (noA b)
                · by_cases bp : b = p
                  · rw [bp, upd_same]
                    simp
                  · rw [upd_ne bp]
                    exact st2.s5 b (by rw [upd_ne bp]; exact h2)
              · rw [nb0] at hk; cases hk
              · rw [nb0] at hk; cases hk
              · obtain ⟨h0, ps, h1, h2, h3⟩ := o2.ext.2 t ht hz
                have tp : C.cl (tabKey t) ≠ p := fun z => by rw [z, H2p] at h1; cases h1
                have tq : C.cl (tabKey t) ≠ q := fun z => by rw [z, hq] at h1; cases h1
                refine ⟨?_, ps, by rw [upd_ne tp]; exact h1, h2, fun pos cv hc => ?_⟩
                · rw [upd_ne tq]
                  show (if C.cl (tabKey t) = p then none else F2 _) = none
                  rw [if_neg tp]
                  exact h0
                · obtain ⟨c, e1, e2⟩ := h3 pos cv hc
                  have cp : c ≠ p := fun z => by rw [z, F2p] at e2; cases e2
                  have cq : c ≠ q := fun z => by rw [z] at e2; rw [k1] at e2; cases e2
                  refine ⟨c, e1, ?_⟩
                  rw [upd_ne cq]
                  show (if c = p then none else F2 c) = _
                  rw [if_neg cp]
                  exact e2
            · refine ⟨sF3, fun b hb => ?_, fun b hb => .inl hb, fun b x e nt na nbr => ?_, fun b hb => ?_⟩
              · by_cases bq : b = q
                · exact .inr (.inl (bq ▸ Hq))
                · rw [upd_ne bq] at hb
                  have hb : (if b = p then none else F2 b) ≠ none := hb
                  split at hb
                  · exact absurd rfl hb
                  · rename_i bp
                    rcases st2.s2 b hb with a | a | a
                    · rw [upd_ne bp] at a
                      exact .inl a
                    · rw [upd_ne bp] at a
                      exact .inr (.inl a)
                    · exact absurd a (noA b)
              · have bp : b ≠ p := fun z => na ⟨i, by rw [hfp, z]; exact List.mem_cons_self⟩
                rw [upd_ne bp]
                exact st2.s4 b x (by rw [upd_ne bp]; exact e) nt (noA b) nbr
              · by_cases bp : b = p
                · rw [bp, upd_same]
                  simp
                · rw [upd_ne bp]
                  exact st2.s5 b (by rw [upd_ne bp]; exact hb)
        | _ => exact pp.elim
    · exact pp.elim
  · exact pp.elim
theorem dv_compD (i : Nat) {fo : Stt → Res MO} (h : DO X C W e fo) : DV X C W e (eCompD i fo) := by
  obtain ⟨te, pe, qe⟩ := h.pr
  exact ⟨_, pe_lock pe, compD_den i qe⟩
end
section
variable {X : Cx} {C : Fx} {W : WX} {elt tg iter : Expr} {ifs : List Expr} {scope : Scope} {own : List (Str × Nat)} {pos : Pos} {fi : Stt → Res (List PV)} {a : PV → Stt → Option Stt} {ft : Stt → Res Bool} {fe : Stt → Res PV}
/-- name = [.. for k in d] on one line -/
theorem ds_compD (i : Nat) {j : Nat} {y : Str} {py spos : Pos} (hc : X.calm = true) (hN : X.N.Nodup) (hy : X.N[j]? = some y) (hyl : X.env.scope.names.lookup y = some .local)
    (hsw : swapsWith (.ListComp elt [⟨tg, iter, ifs, 0⟩] scope pos) (some (.Name y py)) spos.line X.env = pure true) (ok : BlkOk X.N X.env.scope scope own) (hi : DI X C W tg iter fi)
    (hg : ∀ (s : Shared) (H : Hp) (L : Addr) (cl : List (Str × Addr)) (fp : List Addr), DG (X.blk s H scope (compEnvC scope cl L X.env) fp) C (fun i => decide (i ∈ own.map (·.2))) tg a)
    (ht : ∀ (s : Shared) (H : Hp) (L : Addr) (cl : List (Str × Addr)) (fp : List Addr), DTs (X.blk s H scope (compEnvC scope cl L X.env) fp) C W0 ifs ft)
    (he : ∀ (s : Shared) (H : Hp) (L : Addr) (cl : List (Str × Addr)) (fp : List Addr), DV (X.blk s H scope (compEnvC scope cl L X.env) fp) C W0 elt fe) (hs : ∀ x, foldedSetIterable iter X.env x = pure x := by intro _; rfl) :
    DS X C W (.Assign [.Name y py] (.ListComp elt [⟨tg, iter, ifs, 0⟩] scope pos) spos) (gAsg (eCompD i (oComp (own.map (·.2)) fi a ft fe)) (aName j)) := by
  obtain ⟨ti, pi, qi⟩ := hi.pr
  refine ⟨_, ps_lock (ps_setLc hc hN hy hyl hsw pi ok (fun s H L cl fp => (hg s H L cl fp).c) (fun s H L cl fp => (ht s H L cl fp).c) (fun s H L cl fp => (he s H L cl fp).c) hs), fun F A H σ s D o p => ?_⟩
  have den := lc_den (C := C) (W := W) (vs := own.map (·.2)) (tg := cTG C (fun i => decide (i ∈ own.map (·.2))) a) (tt := cTT C W0 ft) (te := cTE C W0 fe) qi (fun F A H σ s x p s' Q o r e k => ⟨F, A, s, p, s', o, r, e, k⟩) (fun F A H σ s Q o p => ⟨F, A, s, o, p⟩) (fun F A H σ s Q o p => ⟨F, A, s, o, p⟩)
  refine compD_den i den F A H σ s (fun v H' => D.nx (σ.set j (some v)) H') o ?_
  unfold gAsg at p
  cases hr : eCompD i (oComp (own.map (·.2)) fi a ft fe) s with
  | ok v s1 =>
    rw [hr] at p
    intro u F' A' H' o1 st1 r1
    obtain ⟨o3, st3⟩ := o1.setV (i := j) r1
    exact p _ _ _ _ o3 (st1.trans st3)
  | ex c v s1 => rw [hr] at p; exact fun d F' A' H' => p d σ F' A' H'
  | stuck => rw [hr] at p; exact p
end
end PL
/-! PLT: the law's own end. -/
namespace PL
open PySem PySem.Spec PyProof.Rows L2
/-- the script as the law meets it -/
def scrOf (ns : List Int) : PV := .scr (ns.map PV.int)
theorem law_sp {K : PySem.W.Frag} {cl : Str → Addr} {m : List SV → List MO → FRes} (hm : ∀ ns : List Int, ns.length ≤ 63 → m [.val (scrOf ns)] [] = .ok (.bl true) []) {H : Hp} {a : Addr} {ns : List Int} (hl : ns.length ≤ 63) (hS : SqL K H a (ns.map V.int)) (hT : TabOk cl H H := by first | exact tabOk_0 | exact tabOk_nil) :
    spOf K cl 1 m [.ref a] H (fun v _ => v = .bl true) fun _ _ _ => False := by
  refine ⟨rfl, ⟨K, cl, 0, fun _ => 0, fun _ => [], 0, fun _ => none⟩, H, [.val (scrOf ns)], [], rfl, rfl, ?_, .val (.scr hS (Rps.of_ints ns)) .nil, ?_⟩
  · exact ⟨rfl, fun _ _ h => h, fun i v e => by simp at e, fun i m e => by simp at e, rfl, fun i k e => by simp at e, fun k m e => by simp at e, fun i b h => absurd h (by simp [noA]), fun _ _ _ h _ => absurd h (by simp [noA]), fun k b h _ => absurd h (Nat.not_lt_zero k), fun k j b h _ _ _ => absurd h (Nat.not_lt_zero k), ⟨(fun _ _ h => nomatch h), hT⟩⟩
  · rw [hm ns hl]
    intro u F' H' o st r
    cases r
    rfl
theorem no_cx {P : Program} {w : World} {H : Hp} {s : Shared} {e : Value} {s' : Shared} (h : L2.CX P w [] H s (fun _ _ _ => False) e s') : False := by
  obtain ⟨_, _, _, _, _, _, _, _, _, _, _, _, z⟩ := h
  exact z
end PL
/-! PLL: lambdas: their making, what the state knows then. -/
namespace PL
open PySem PySem.Spec PyProof.Rows L2 LamX
/-- the words of a lambda -/
structure LF where
  qual : Str
  params : Arguments
  body : Expr
  scope : Scope
  cl : List (Str × Addr)
  c : Addr
/-- the object at f is the lambda F -/
def LamO (f : Addr) (F : LF) : HO := .ext fun h => ∃ (pm ctv : Value), h.get? f = some (PySem.W.kla_obj "<lambda>" F.qual F.params F.body F.scope F.cl pm F.c ctv)
section
variable {X : Cx} {pins : List (Addr × Obj)} {σ : L2.St} {H : Hp} {s : Shared}
/-- what a lambda's making did: its code object is new, or the table told it -/
inductive Made (H : Hp) (P : Addr) (ps : Array Value) (pos : Pos) (mk : Addr → LF) (f c' : Addr) : Hp → Prop
  | new : H c' = none → c' ≠ f → Made H P ps pos mk f c' (L2.upd (L2.upd (L2.upd H P (.tbl (ps ++ #[rawInt pos.line, rawInt pos.col, .ref c']))) c' (CodeO c' (mk c').qual)) f (LamO f (mk c')))
  | hit : codeAmong pos ps.toList = some (.ref c') → Made H P ps pos mk f c' (L2.upd H f (LamO f (mk c')))
end
end PL
/-! PLL2: functions that are handed to defs. -/
namespace PL
open PySem PySem.Spec PyProof.Rows L2 LamX
mutual
/-- no function within -/
def noFn : PV → Bool
  | .fnp => false
  | .tup l => noFns l
  | .lst l => noFns l
  | .scr l => noFns l
  | .ins _ fs => noFnf fs
  | .exi _ v => noFn v
  | .dcv _ vs => noFns vs
  | _ => true
def noFns : List PV → Bool
  | [] => true
  | p :: r => noFn p && noFns r
def noFnf : List (Str × PV) → Bool
  | [] => true
  | p :: r => noFn p.2 && noFnf r
end
/-- the context of a def that nothing is lent to -/
def bare (C : Fx) (fa : Addr) (F0 : Hp) : Fx := ⟨C.K, C.cl, 0, fun _ => 0, fun _ => [], fa, F0⟩
section
variable {C : Fx} {F H F' H' F0 : Hp} {A : Nat → List Addr} {σ : L2.St} {s : Stt} {fa : Addr}
theorem OkF.bare (o : OkF C F A H σ s) (h0 : Same F0 F) : OkF (PL.bare C fa F0) F noA H [] ⟨[], []⟩ :=
  ⟨rfl, o.sub, fun i v e => by simp at e, fun i m e => by simp at e, rfl, fun i k e => by simp at e, fun k m e => by simp at e, fun i b h => absurd h (by simp [noA]), fun _ _ _ h _ => absurd h (by simp [noA]), fun k b hk _ => absurd hk (Nat.not_lt_zero k), fun k j b h _ _ _ => absurd h (Nat.not_lt_zero k), ⟨h0, o.ext.2⟩⟩
end
section
variable (P : Program) (w : World) (K : PySem.W.Frag) (mg : Str → Option Value) (base : Heap) (cl : Str → Addr)
/-- what is known of the function at fa: sem tells its calls, where T holds (T speaks of the cells cs) and the plain things F0 stand -/
structure FunP (kf : Nat) (fa : Addr) (sem : List PV → Option PV) (F0 : Hp) (cs : List Addr) (T : Heap → Hp → Prop) : Prop where
  stab : ∀ fs H H' h h', (∀ c ∈ cs, c ∉ fs) → Un fs [] H H' h h' → T h H → T h' H'
  lt : ∀ h H, T h H → ∀ c ∈ cs, c < h.objs.size
  obj : ∃ L : LF, F0 fa = some (LamO fa L)
  call : ∀ (A : Around) (outer : List Env) (s : Shared) (H : Hp) (D : Fx) (F : Hp) (us : List Value) (vs : List V) (ps : List PV) (z : PV) (Q : VK) (E : XK), Room kf A → A.guards = some [] → Env0 P w K mg base A outer s H → T s.heap H → (∀ c ∈ cs, c ∉ frs outer) → Same F0 F →
    D.K = K → D.cl = cl → OkF D F noA H [] ⟨[], []⟩ → Vals vs us → Rps D F vs ps → noFns ps = true → sem ps = some z →
    (∀ u F' H', OkF D F' noA H' [] ⟨[], []⟩ → Step D F noA H F' noA H' → Rp D F' u z → Q u H') → codeAny (model P w) A (.call (.ref fa) ⟨us, []⟩) (CR (L2.CX P w) outer P w H s Q E) s
end
section
variable {P : Program} {w : World} {K : PySem.W.Frag} {mg : Str → Option Value} {base : Heap} {cl : Str → Addr}
theorem FunP.mono {j k : Nat} {fa : Addr} {sem : List PV → Option PV} {F0 : Hp} {cs : List Addr} {T : Heap → Hp → Prop} (h : FunP P w K mg base cl j fa sem F0 cs T) (hj : j ≤ k) : FunP P w K mg base cl k fa sem F0 cs T :=
  ⟨h.stab, h.lt, h.obj, fun A outer s H D F us vs ps z Q E hr => h.call A outer s H D F us vs ps z Q E (hr.mono hj)⟩
/-- the code object of the function at f -/
def CodeIs (K : PySem.W.Frag) (f : Addr) (cv : Value) : Prop := ∃ (oc : Value) (od : Option Addr) (fd : FuncData) (osl : Array (Option Value)), K.lookup f = some (⟨oc, od, .func fd, osl⟩ : Obj) ∧ fd.code = cv
theorem CodeIs.uniq {f : Addr} {a b : Value} (h : CodeIs K f a) (h' : CodeIs K f b) : a = b := by
  obtain ⟨_, _, _, _, e1, e2⟩ := h
  obtain ⟨_, _, _, _, e3, e4⟩ := h'
  rw [e1] at e3
  cases e3
  exact e2.symm.trans e4
end
end PL
/-! PLL3: a lambda is handed to a def. -/
namespace PL
open PySem PySem.Spec PyProof.Rows L2 LamX
/-! ### the call -/
end PL
/-! PLL4: the law's own end where the program makes lambdas. -/
namespace PL
open PySem PySem.Spec PyProof.Rows L2 LamX
end PL
/-! PLM: laws about the mirrors' words: loops, comprehensions, data shown and compared. -/
namespace PL
open PySem PySem.Spec PyProof.Rows L2
/-! ### loops -/
theorem forL_nil (a : PV → Stt → Option Stt) (b : Stt → Fl) (s : Stt) : forL a b [] s = .nx s := rfl
/-- a loop that comes to its end: I by the turn -/
theorem forL_inv {a : PV → Stt → Option Stt} {b : Stt → Fl} (I : Nat → Stt → Prop) : ∀ (l : List PV) (k : Nat) (s : Stt), I k s →
    (∀ i p s, l[i]? = some p → I (k + i) s → ∃ s1, a p s = some s1 ∧ ∃ s2, (b s1 = .nx s2 ∨ b s1 = .ct s2) ∧ I (k + i + 1) s2) → ∃ s2, forL a b l s = .nx s2 ∧ I (k + l.length) s2
  | [], k, s, h0, _ => ⟨s, rfl, h0⟩
  | p :: r, k, s, h0, h => by
    obtain ⟨s1, e1, s2, e2, h2⟩ := h 0 p s rfl h0
    have ih := forL_inv I r (k + 1) s2 h2 fun i q s' hq hI => by
      obtain ⟨t1, g1, t2, g2, g3⟩ := h (i + 1) q s' (by simpa using hq) (by rw [show k + (i + 1) = k + 1 + i by omega]; exact hI)
      exact ⟨t1, g1, t2, g2, by rw [show k + 1 + i + 1 = k + (i + 1) + 1 by omega]; exact g3⟩
    obtain ⟨s3, e3, h3⟩ := ih
    refine ⟨s3, ?_, by rw [List.length_cons, show k + (r.length + 1) = k + 1 + r.length by omega]; exact h3⟩
    rw [forL_cons _ _ _ _ _ _ e1]
    rcases e2 with e2 | e2 <;> rw [e2] <;> exact e3
/-- the same without turns -/
theorem forL_all {a : PV → Stt → Option Stt} {b : Stt → Fl} (I : Stt → Prop) {l : List PV} {s : Stt} (h0 : I s)
    (h : ∀ p s, p ∈ l → I s → ∃ s1, a p s = some s1 ∧ ∃ s2, (b s1 = .nx s2 ∨ b s1 = .ct s2) ∧ I s2) : ∃ s2, forL a b l s = .nx s2 ∧ I s2 :=
  forL_inv (fun _ => I) l 0 s h0 fun i p s hp hI => h p s (List.mem_of_getElem? hp) hI
/-- a comprehension whose parts leave the state as it is -/
theorem compL_map {vs : List Nat} {a : PV → Stt → Option Stt} {ft : Stt → Res Bool} {fe : Stt → Res PV} {s : Stt} (f : PV → Option PV) : ∀ (l acc : List PV), acc.length + l.length ≤ 16777216 →
    (∀ p ∈ l, ∃ s1, a p s = some s1 ∧ ((∃ s2 y s3, ft s1 = .ok true s2 ∧ fe s2 = .ok y s3 ∧ wipeS vs s3 = s ∧ f p = some y) ∨ ∃ s2, ft s1 = .ok false s2 ∧ wipeS vs s2 = s ∧ f p = none)) →
    compL vs a ft fe l acc s = .ok (acc ++ l.filterMap f) s
  | [], acc, _, _ => by simp [compL]
  | p :: r, acc, hl, h => by
    rw [List.length_cons] at hl
    obtain ⟨s1, e1, e2⟩ := h p List.mem_cons_self
    rw [compL_cons _ _ _ _ _ _ _ _ _ e1]
    rcases e2 with ⟨s2, y, s3, e2, e3, e4, e5⟩ | ⟨s2, e2, e4, e5⟩
    · rw [e2]
      simp only [Res.bind_ok, if_true, e3]
      rw [if_pos (by omega), e4, compL_map f r (acc ++ [y]) (by rw [List.length_append, List.length_singleton]; omega) fun q hq => h q (List.mem_cons_of_mem _ hq)]
      rw [List.filterMap_cons, e5]
      simp
    · rw [e2]
      simp only [Res.bind_ok, Bool.false_eq_true, if_false]
      rw [e4, compL_map f r acc (by omega) fun q hq => h q (List.mem_cons_of_mem _ hq)]
      rw [List.filterMap_cons, e5]
/-! ### data shown and compared -/
theorem join_len_le (n : Nat) : ∀ ts : List Str, (∀ t ∈ ts, t.length ≤ n) → (Str.join ", " ts).length ≤ ts.length * (n + 2)
  | [], _ => by simp [Str.join]; decide
  | [x], h => by
    have := h x List.mem_cons_self
    show x.length ≤ 1 * (n + 2)
    omega
  | x :: y :: r, h => by
    have ih := join_len_le n (y :: r) fun t ht => h t (List.mem_cons_of_mem _ ht)
    have hx := h x List.mem_cons_self
    show (x ++ (", " : Str) ++ Str.join ", " (y :: r)).length ≤ _
    have e2 : ((", " : String) : Str).length = 2 := by decide
    rw [PySem.Str.length_append, PySem.Str.length_append, e2]
    simp only [List.length_cons] at ih ⊢
    have : (r.length + 1 + 1) * (n + 2) = (r.length + 1) * (n + 2) + (n + 2) := by rw [Nat.add_mul (r.length + 1) 1, Nat.one_mul]
    omega
theorem tupleText_le (n : Nat) (ts : List Str) (h : ∀ t ∈ ts, t.length ≤ n) : (tupleText ts).length ≤ ts.length * (n + 2) + 3 := by
  unfold tupleText
  rw [PySem.Str.length_append, PySem.Str.length_append]
  have e1 : ((("(" : String) : Str)).length = 1 := by decide
  have e2 : ((if ts.length == 1 then ",)" else ")" : String) : Str).length ≤ 2 := by split <;> decide
  have := join_len_le n ts h
  omega
theorem listText_le (n : Nat) (ts : List Str) (h : ∀ t ∈ ts, t.length ≤ n) : (listText ts).length ≤ ts.length * (n + 2) + 3 := by
  rw [show listText ts = (("[" : String) : Str) ++ Str.join ", " ts ++ (("]" : String) : Str) from listText_eq_join ts]
  rw [PySem.Str.length_append, PySem.Str.length_append]
  have e1 : ((("[" : String) : Str)).length = 1 := by decide
  have e2 : ((("]" : String) : Str)).length = 1 := by decide
  have := join_len_le n ts h
  omega
abbrev SO (x : Str) : Prop := PyData.strOk x = true
theorem so_of (s : String) : SO (Str.ofString s) := by
  show PyData.strOk _ = true
  rw [Str.ofString_eq_toList]
  unfold PyData.strOk
  simp only [List.all_toArray, List.all_map, List.all_eq_true]
  intro c _
  have := c.valid
  have h2 : c.toNat < 1114112 := by
    have h3 : c.val.toNat < 0xd800 ∨ 0xdfff < c.val.toNat ∧ c.val.toNat < 0x110000 := c.valid
    show c.val.toNat < 1114112
    omega
  simpa using h2
theorem so_app {x y : Str} (hx : SO x) (hy : SO y) : SO (x ++ y) := by
  unfold SO PyData.strOk at *
  show ((x.cps ++ y.cps).all _) = true
  rw [Array.all_append, hx, hy]
  rfl
theorem so_join {sep : Str} (h0 : SO sep) : ∀ {ts : List Str}, (∀ t ∈ ts, SO t) → SO (Str.join sep ts)
  | [], _ => so_of ""
  | [x], h => h x List.mem_cons_self
  | x :: y :: r, h => so_app (so_app (h x List.mem_cons_self) h0) (so_join h0 fun t ht => h t (List.mem_cons_of_mem _ ht))
theorem so_list {ts : List Str} (h : ∀ t ∈ ts, SO t) : SO (listText ts) := by
  rw [show listText ts = (("[" : String) : Str) ++ Str.join ", " ts ++ (("]" : String) : Str) from listText_eq_join ts]
  exact so_app (so_app (so_of "[") (so_join (so_of ", ") h)) (so_of "]")
theorem so_tuple {ts : List Str} (h : ∀ t ∈ ts, SO t) : SO (tupleText ts) := by
  unfold tupleText
  exact so_app (so_app (so_of "(") (so_join (so_of ", ") h)) (so_of _)
/-- p is data: shown in at most n signs, nested at most k deep -/
structure Rk (p : PV) (n k : Nat) : Prop where
  ex : ∃ d, toD p = some d ∧ d.showable = true ∧ d.hasDict = false ∧ d.canLay0 = true ∧ d.shown.length ≤ n ∧ d.depth ≤ k ∧ SO d.shown
structure Rks (l : List PV) (n k : Nat) : Prop where
  ex : ∃ ds, toDs l = some ds ∧ PyData.showableAll ds = true ∧ PyData.hasDictAll ds = false ∧ PyData.canLayAll0 ds = true ∧ (∀ t ∈ PyData.shownAll ds, t.length ≤ n) ∧ PyData.depthAll ds ≤ k ∧ ds.length = l.length ∧ ∀ t ∈ PyData.shownAll ds, SO t
theorem Rk.mono {p : PV} {n k n' k' : Nat} (h : Rk p n k) (hn : n ≤ n') (hk : k ≤ k') : Rk p n' k' := by
  obtain ⟨d, h1, h2, h3, h4, h5, h6, h7⟩ := h.ex
  exact ⟨d, h1, h2, h3, h4, Nat.le_trans h5 hn, Nat.le_trans h6 hk, h7⟩
theorem Rks.of {n k : Nat} : ∀ {l : List PV}, (∀ p ∈ l, Rk p n k) → Rks l n k
  | [], _ => ⟨[], rfl, by simp [PyData.showableAll], by simp [PyData.hasDictAll], by simp [PyData.canLayAll0], by simp [PyData.shownAll], by simp [PyData.depthAll], rfl, by simp [PyData.shownAll]⟩
  | p :: r, h => by
    obtain ⟨d, h1, h2, h3, h4, h5, h6, h7⟩ := (h p List.mem_cons_self).ex
    obtain ⟨ds, g1, g2, g3, g4, g5, g6, g7, g8⟩ := (Rks.of (l := r) fun q hq => h q (List.mem_cons_of_mem _ hq)).ex
    refine ⟨d :: ds, ?_, ?_, ?_, ?_, ?_, ?_, by simp [g7], ?_⟩
    · unfold toDs; rw [h1, g1]
    · rw [PyData.showableAll, h2, g2]; rfl
    · rw [PyData.hasDictAll, h3, g3]; rfl
    · rw [PyData.canLayAll0, h4, g4]; rfl
    · rw [PyData.shownAll]
      intro t ht
      rcases List.mem_cons.mp ht with e | e
      · rw [e]; exact h5
      · exact g5 t e
    · rw [PyData.depthAll]
      omega
    · rw [PyData.shownAll]
      intro t ht
      rcases List.mem_cons.mp ht with e | e
      · rw [e]; exact h7
      · exact g8 t e
theorem shownAll_length : ∀ ds : List PyData, (PyData.shownAll ds).length = ds.length
  | [] => by simp [PyData.shownAll]
  | d :: r => by rw [PyData.shownAll, List.length_cons, List.length_cons, shownAll_length r]
theorem Rk.non : Rk .non 4 0 := ⟨.none, rfl, by simp [PyData.showable], by simp [PyData.hasDict], by simp [PyData.canLay0], by simp [PyData.shown]; decide, by simp [PyData.depth], by simp only [PyData.shown]; exact so_of _⟩
theorem Rk.bl (b : Bool) : Rk (.bl b) 5 0 := ⟨.bool b, rfl, by simp [PyData.showable], by simp [PyData.hasDict], by simp [PyData.canLay0], by cases b <;> simp [PyData.shown] <;> decide, by simp [PyData.depth], by cases b <;> simp only [PyData.shown] <;> exact so_of _⟩
theorem Rk.int {i : Int} (h : i.natAbs.log2 < 1920) : Rk (.int i) 1921 0 := by
  refine ⟨.int i, rfl, by simpa [PyData.showable] using h, by simp [PyData.hasDict], by simp [PyData.canLay0], ?_, by simp [PyData.depth], by simp only [PyData.shown]; exact so_of _⟩
  have := int_text_length_le (a := i) (k := 1920) (by decide) h
  simp only [PyData.shown]
  rw [PySem.ofString_length]
  exact this
theorem Rk.lst {l : List PV} {n k : Nat} (h : ∀ p ∈ l, Rk p n k) : Rk (.lst l) (l.length * (n + 2) + 3) (k + 1) := by
  obtain ⟨ds, g1, g2, g3, g4, g5, g6, g7, g8⟩ := (Rks.of h).ex
  refine ⟨.list ds, by show (toDs l).map _ = _; rw [g1]; rfl, by rw [PyData.showable]; exact g2, by rw [PyData.hasDict]; exact g3, by rw [PyData.canLay0]; exact g4, ?_, by rw [PyData.depth]; omega, by rw [PyData.shown]; exact so_list g8⟩
  rw [PyData.shown]
  have := listText_le n _ g5
  rw [shownAll_length, g7] at this
  exact this
theorem Rk.tup {l : List PV} {n k : Nat} (h : ∀ p ∈ l, Rk p n k) : Rk (.tup l) (l.length * (n + 2) + 3) (k + 1) := by
  obtain ⟨ds, g1, g2, g3, g4, g5, g6, g7, g8⟩ := (Rks.of h).ex
  refine ⟨.tuple ds, by show (toDs l).map _ = _; rw [g1]; rfl, by rw [PyData.showable]; exact g2, by rw [PyData.hasDict]; exact g3, by rw [PyData.canLay0]; exact g4, ?_, by rw [PyData.depth]; omega, by rw [PyData.shown]; exact so_tuple g8⟩
  rw [PyData.shown]
  have := tupleText_le n _ g5
  rw [shownAll_length, g7] at this
  exact this
theorem Rk.shaped {p : PV} {n k : Nat} (h : Rk p n k) (hk : k ≤ 64) : ∃ d, toD p = some d ∧ SeqAt.shaped d = true ∧ d.canLay0 = true := by
  obtain ⟨d, h1, h2, h3, h4, h5, h6, h7⟩ := h.ex
  refine ⟨d, h1, ?_, h4⟩
  unfold SeqAt.shaped
  rw [h4, decide_eq_true (Nat.le_trans h6 hk)]
  rfl
/-! lists of numbers -/
theorem eqB_int (a b : Int) : pEqB (.int a) (.int b) = some (a == b) := by
  simp [pEqB, toD, SeqAt.shaped, PyData.canLay0, PyData.depth, PyData.eqv]
end PL
/-! PM: the mirrors of the program's defs (printed by gen.py). -/
namespace PM
open PySem PySem.Spec PyProof.Rows L2 PL
noncomputable def g_is_guard : Stt → Fl :=
  (gSeq (gAsg (eVar 0) (aTup 4 (asCons (aName 1) (asCons (aName 2) (asCons (aName 3) (asCons (aName 4) asNil))))))
  (gSeq (gRet (eAn (eChain pLe pLe (eC (.int 0)) (eVar 1) (eVar 2)) (eChain pLe pLt (eC (.int 0)) (eVar 4) (eVar 3))))
  gNop))
noncomputable def m_is_guard : List SV → List MO → FRes := mOf 5 g_is_guard
noncomputable def g_first_of : Stt → Fl :=
  (gSeq (gAsg (eVar 0) (aTup 4 (asCons (aName 1) (asCons (aName 2) (asCons (aName 3) (asCons (aName 4) asNil))))))
  (gSeq (gRet (eBin pAdd (eVar 1) (eBin pMod (eBin pSub (eVar 4) (eVar 1)) (eVar 3))))
  gNop))
noncomputable def m_first_of : List SV → List MO → FRes := mOf 5 g_first_of
noncomputable def g_lanes_of : Stt → Fl :=
  (gSeq (gRet (eCallB pMax2 (aCons (eC (.int 0)) (aCons (eBin pFdiv (eBin pSub (eBin pAdd (eBin pSub (eBin pIx (eVar 0) (eC (.int 1))) (eCall PM.m_first_of (avN 1 (lPv (eVar 0) lNil)))) (eBin pIx (eVar 0) (eC (.int 2)))) (eC (.int 1))) (eBin pIx (eVar 0) (eC (.int 2)))) aNil))))
  gNop)
noncomputable def m_lanes_of : List SV → List MO → FRes := mOf 1 g_lanes_of
noncomputable def g_bezout : Stt → Fl :=
  (gSeq (gAsg (eTup (aCons (eVar 0) (aCons (eVar 1) (aCons (eC (.int 1)) (aCons (eC (.int 0)) aNil))))) (aTup 4 (asCons (aName 2) (asCons (aName 3) (asCons (aName 4) (asCons (aName 5) asNil))))))
  (gSeq (gWhile (tOf (eBin pNe (eVar 3) (eC (.int 0))))
  (gSeq (gAsg (eBin pFdiv (eVar 2) (eVar 3)) (aName 6))
  (gSeq (gPar 2 3 (aCons (eVar 3) (aCons (eBin pSub (eVar 2) (eBin pMul (eVar 6) (eVar 3))) aNil)))
  (gSeq (gPar 4 5 (aCons (eVar 5) (aCons (eBin pSub (eVar 4) (eBin pMul (eVar 6) (eVar 5))) aNil)))
  gNop))))
  (gSeq (gRet (eIf (tOf (eBin pGe (eVar 2) (eC (.int 0)))) (eTup (aCons (eVar 2) (aCons (eVar 4) aNil))) (eTup (aCons (eUn pNeg (eVar 2)) (aCons (eUn pNeg (eVar 4)) aNil)))))
  gNop)))
noncomputable def m_bezout : List SV → List MO → FRes := mOf 7 g_bezout
noncomputable def g_lane_at : Stt → Fl :=
  (gSeq (gRet (eBin pAdd (eCall PM.m_first_of (avN 1 (lPv (eVar 0) lNil))) (eBin pMul (eBin pIx (eVar 0) (eC (.int 2))) (eVar 1))))
  gNop)
noncomputable def m_lane_at : List SV → List MO → FRes := mOf 2 g_lane_at
noncomputable def g__law_pool : Stt → Fl :=
  (gSeq (gAsg (eC (.int 0)) (aName 2))
  (gSeq (gIf (tOf (eBin pLt (eVar 1) (eCallB pLen (aCons (eVar 0) aNil))))
  (gSeq (gAsg (eBin pIx (eVar 0) (eVar 1)) (aName 2))
  gNop)
  gNop)
  (gSeq (gRetO (oLst (aCons (eCallB pMax2 (aCons (eC (.int 0)) (aCons (eBin pSub (eCallB pAbs (aCons (eVar 2) aNil)) (eBin pPow (eC (.int 10)) (eC (.int 18)))) aNil))) (aCons (eBin pAdd (eBin pMod (eVar 2) (eC (.int 2305843009213693951))) (eBin pMul (eC (.int 3367900313)) (eBin pAdd (eVar 1) (eC (.int 1))))) (aCons (eC (.int 0)) aNil)))))
  gNop)))
noncomputable def m__law_pool : List SV → List MO → FRes := mOf 3 g__law_pool
noncomputable def g__law_draw_2 : Stt → Fl :=
  (gSeq (gIf (tOf (eBin pGt (eIxM 0 (eC (.int 0))) (eC (.int 0))))
  (gSeq (gAsg (eBin pMod (eIxM 0 (eC (.int 0))) (eVar 1)) (aName 2))
  (gSeq (gSetIx 0 (eBin pFdiv (eIxM 0 (eC (.int 0))) (eVar 1)) (eC (.int 0)))
  (gSeq (gRet (eVar 2))
  gNop)))
  gNop)
  (gSeq (gSetIx 0 (eBin pAdd (eIxM 0 (eC (.int 2))) (eC (.int 1))) (eC (.int 2)))
  (gSeq (gAsg (eBin pMod (eBin pPow (eBin pAdd (eIxM 0 (eC (.int 1))) (eBin pMul (eC (.int 15488257)) (eIxM 0 (eC (.int 2))))) (eC (.int 3))) (eC (.int 162259276829213363391578010288127))) (aName 3))
  (gSeq (gAsg (eBin pMod (eBin pPow (eBin pAdd (eVar 3) (eBin pMul (eC (.int 32453651)) (eIxM 0 (eC (.int 2))))) (eC (.int 5))) (eC (.int 170141183460469231731687303715884105727))) (aName 3))
  (gSeq (gRet (eBin pMod (eBin pFdiv (eVar 3) (eC (.int 1048576))) (eVar 1)))
  gNop)))))
noncomputable def m__law_draw_2 : List SV → List MO → FRes := mOf 4 g__law_draw_2
noncomputable def g_check_banks : Stt → Fl :=
  (gSeq (gIf (tNt (tOf (eChain pLe pLe (eC (.int 1)) (eVar 0) (eC (.int 4096)))))
  (gSeq (fun _ => Fl.stuck)
  gNop)
  gNop)
  gNop)
noncomputable def m_check_banks : List SV → List MO → FRes := mOf 1 g_check_banks
noncomputable def g_check_wave : Stt → Fl :=
  (gSeq (gIf (tNt (tOf (eChain pLe pLe (eC (.int 1)) (eVar 0) (eC (.int 32)))))
  (gSeq (fun _ => Fl.stuck)
  gNop)
  gNop)
  gNop)
noncomputable def m_check_wave : List SV → List MO → FRes := mOf 1 g_check_wave
noncomputable def g_different_banks : Stt → Fl :=
  (gSeq (gRet (eBin pFdiv (eVar 1) (eBin pIx (eCall PM.m_bezout (avN 2 (lPv (eBin pMod (eVar 0) (eVar 1)) (lPv (eVar 1) lNil)))) (eC (.int 0)))))
  gNop)
noncomputable def m_different_banks : List SV → List MO → FRes := mOf 2 g_different_banks
noncomputable def g_degree_for : Stt → Fl :=
  (gSeq (gIf (tOrr (tOf (eBin pEq (eVar 0) (eC (.int 0)))) (tOf (eBin pEq (eVar 1) (eC (.int 0)))))
  (gSeq (gRet (eCallB pMin2 (aCons (eVar 0) (aCons (eC (.int 1)) aNil))))
  gNop)
  gNop)
  (gSeq (gAsg (eCall PM.m_different_banks (avN 2 (lPv (eVar 1) (lPv (eVar 2) lNil)))) (aName 3))
  (gSeq (gRet (eBin pFdiv (eBin pSub (eBin pAdd (eVar 0) (eVar 3)) (eC (.int 1))) (eVar 3)))
  gNop)))
noncomputable def m_degree_for : List SV → List MO → FRes := mOf 4 g_degree_for
noncomputable def g_is_array : Stt → Fl :=
  (gSeq (gRet (eAn (eChain pLe pLe (eC (.int 1)) (eCallB pLen (aCons (eVar 0) aNil)) (eC (.int 8))) (eCallB pAll (aCons (frz (oComp [1] (iTxt (eVar 0)) (aName 1) tYesD (eBin pInSg (eVar 1) (eC (.str "abcdefghijklmnopqrstuvwxyz"))))) aNil))))
  gNop)
noncomputable def m_is_array : List SV → List MO → FRes := mOf 2 g_is_array
noncomputable def g_is_statement : Stt → Fl :=
  (gSeq (gIf (tOf (eBin pNe (eDct [("put", .int 7), ("move", .int 9), ("sum", .int 11)] (eBin pIx (eVar 0) (eC (.int 0)))) (eCallB pLen (aCons (eVar 0) aNil))))
  (gSeq (gRet (eC (.bl false)))
  gNop)
  gNop)
  (gSeq (gIf (tNt (tTru (eCallB pAll (aCons (frz (oComp [2] (iAny (eDct [("put", .tup [.int 2]), ("move", .tup [.int 2, .int 5]), ("sum", .tup [.int 2, .int 5, .int 8])] (eBin pIx (eVar 0) (eC (.int 0))))) (aName 2) tYesD (eCall PM.m_is_array (avN 1 (lPv (eBin pIx (eVar 0) (eVar 2)) lNil))))) aNil))))
  (gSeq (gRet (eC (.bl false)))
  gNop)
  gNop)
  (gSeq (gRet (eAn (eCall PM.m_is_guard (avN 1 (lPv (eBin pIx (eVar 0) (eC (.int 1))) lNil))) (eBin pLe (eBin pIx (eBin pIx (eVar 0) (eC (.int 1))) (eC (.int 1))) (eVar 1))))
  gNop)))
noncomputable def m_is_statement : List SV → List MO → FRes := mOf 3 g_is_statement
noncomputable def g_are_lonely : Stt → Fl :=
  (gSeq (gRet (eBin pGe (eBin pIx (eVar 0) (eC (.int 2))) (eVar 1)))
  gNop)
noncomputable def m_are_lonely : List SV → List MO → FRes := mOf 2 g_are_lonely
noncomputable def g_last_of : Stt → Fl :=
  (gSeq (gRet (eCall PM.m_lane_at (avN 2 (lPv (eVar 0) (lPv (eBin pSub (eCall PM.m_lanes_of (avN 1 (lPv (eVar 0) lNil))) (eC (.int 1))) lNil)))))
  gNop)
noncomputable def m_last_of : List SV → List MO → FRes := mOf 1 g_last_of
noncomputable def g_waves_with : Stt → Fl :=
  (gSeq (gAsg (eCall PM.m_lanes_of (avN 1 (lPv (eVar 0) lNil))) (aName 2))
  (gSeq (gIf (tOrr (tOf (eBin pEq (eVar 2) (eC (.int 0)))) (tTru (eCall PM.m_are_lonely (avN 2 (lPv (eVar 0) (lPv (eVar 1) lNil))))))
  (gSeq (gRet (eVar 2))
  gNop)
  gNop)
  (gSeq (gRet (eBin pAdd (eBin pSub (eBin pFdiv (eCall PM.m_last_of (avN 1 (lPv (eVar 0) lNil))) (eVar 1)) (eBin pFdiv (eCall PM.m_first_of (avN 1 (lPv (eVar 0) lNil))) (eVar 1))) (eC (.int 1))))
  gNop)))
noncomputable def m_waves_with : List SV → List MO → FRes := mOf 3 g_waves_with
noncomputable def g_in_wave : Stt → Fl :=
  (gSeq (gAsg (eVar 0) (aTup 4 (asCons (aName 3) (asCons (aName 4) (asCons (aName 5) (asCons (aName 6) asNil))))))
  (gSeq (gRet (eTup (aCons (eCallB pMax2 (aCons (eVar 3) (aCons (eBin pMul (eVar 1) (eVar 2)) aNil))) (aCons (eCallB pMin2 (aCons (eVar 4) (aCons (eBin pAdd (eBin pMul (eVar 1) (eVar 2)) (eVar 1)) aNil))) (aCons (eVar 5) (aCons (eVar 6) aNil))))))
  gNop))
noncomputable def m_in_wave : List SV → List MO → FRes := mOf 7 g_in_wave
noncomputable def g_check_barriers : Stt → Fl :=
  (gSeq (gAsg (eC (.int 0)) (aName 2))
  (gSeq (gFor (iEnumQ (aCons (eVar 0) aNil)) (aTup 2 (asCons (aName 3) (asCons (aName 4) asNil)))
  (gSeq (gIf (tNt (tOf (eChain pLt pLt (eVar 2) (eVar 4) (eVar 1))))
  (gSeq (fun _ => Fl.stuck)
  gNop)
  gNop)
  (gSeq (gAsg (eVar 4) (aName 2))
  gNop)))
  gNop))
noncomputable def m_check_barriers : List SV → List MO → FRes := mOf 5 g_check_barriers
noncomputable def g_Kernel___init__ : Stt → Fl :=
  (gSeq (gIf (tOf (eBin pLt (eVar 1) (eC (.int 1))))
  (gSeq (fun _ => Fl.stuck)
  gNop)
  gNop)
  (gSeq (gFor (iEnumQ (aCons (eVar 2) aNil)) (aTup 2 (asCons (aName 4) (asCons (aName 5) asNil)))
  (gSeq (gIf (tNt (tTru (eCall PM.m_is_statement (avN 2 (lPv (eVar 5) (lPv (eVar 1) lNil))))))
  (gSeq (fun _ => Fl.stuck)
  gNop)
  gNop)
  gNop))
  (gSeq (gDrop (eCall PM.m_check_barriers (avN 2 (lPv (eVar 3) (lPv (eCallB pLen (aCons (eVar 2) aNil)) lNil)))))
  (gSeq (gSetFld 0 "Kernel" "lane_count" (eVar 1))
  (gSeq (gSetFld 0 "Kernel" "kept_statements" (eTupV (eVar 2)))
  (gSeq (gSetFld 0 "Kernel" "kept_barriers" (eTupV (eVar 3)))
  gNop))))))
noncomputable def m_Kernel___init__ : List SV → List MO → FRes := mOf 6 g_Kernel___init__
noncomputable def g_accesses_in : Stt → Fl :=
  (gSeq (gAsg (eDct [("put", .tup [.int 2]), ("move", .tup [.int 2, .int 5]), ("sum", .tup [.int 2, .int 5, .int 8])] (eBin pIx (eVar 1) (eC (.int 0)))) (aName 2))
  (gSeq (gAsg (frz (oComp [4] (iAny (eSl (eVar 2) (pSo (eC (.int 1))) pNo)) (aName 4) tYesD (eTup (aCons (eVar 0) (aCons (eC (.str "read")) (aStar (eSl (eVar 1) (pSo (eVar 4)) (pSo (eBin pAdd (eVar 4) (eC (.int 3))))) aNil)))))) (aName 3))
  (gSeq (gRet (frz (oLst (aStar (eVar 3) (aCons (eTup (aCons (eVar 0) (aCons (eC (.str "write")) (aStar (eSl (eVar 1) (pSo (eBin pIx (eVar 2) (eC (.int 0)))) (pSo (eBin pAdd (eBin pIx (eVar 2) (eC (.int 0))) (eC (.int 3))))) aNil)))) aNil)))))
  gNop)))
noncomputable def m_accesses_in : List SV → List MO → FRes := mOf 5 g_accesses_in
noncomputable def g_access_list : Stt → Fl :=
  (gSeq (gAsgO 1 (oLst aNil))
  (gSeq (gFor (iEnumQ (aCons (eFld "Kernel" "kept_statements" (eVar 0)) aNil)) (aTup 2 (asCons (aName 2) (asCons (aName 3) asNil)))
  (gSeq (gExt 1 (eCall PM.m_accesses_in (avN 2 (lPv (eVar 2) (lPv (eVar 3) lNil)))))
  gNop))
  (gSeq (gRet (frz (oMv 1)))
  gNop)))
noncomputable def m_access_list : List SV → List MO → FRes := mOf 4 g_access_list
noncomputable def g_check_access : Stt → Fl :=
  (gSeq (gIf (tNt (tOf (eChain pLe pLt (eC (.int 0)) (eVar 1) (eCallB pLen (aCons (eCall PM.m_access_list (avN 1 (lPv (eVar 0) lNil))) aNil)))))
  (gSeq (fun _ => Fl.stuck)
  gNop)
  gNop)
  gNop)
noncomputable def m_check_access : List SV → List MO → FRes := mOf 2 g_check_access
noncomputable def g_part_in : Stt → Fl :=
  (gSeq (gRet (eTup (aCons (eBin pIx (eBin pIx (eFld "Kernel" "kept_statements" (eVar 0)) (eBin pIx (eVar 1) (eC (.int 0)))) (eC (.int 1))) (aCons (eBin pIx (eVar 1) (eC (.int 3))) (aCons (eBin pIx (eVar 1) (eC (.int 4))) aNil)))))
  gNop)
noncomputable def m_part_in : List SV → List MO → FRes := mOf 2 g_part_in
noncomputable def g_waves_of : Stt → Fl :=
  (gSeq (gIf (tOf (eBin pEq (eCall PM.m_lanes_of (avN 1 (lPv (eVar 0) lNil))) (eC (.int 0))))
  (gSeq (gRet (frz (oLst aNil)))
  gNop)
  gNop)
  (gSeq (gPar 2 3 (aCons (eBin pFdiv (eCall PM.m_first_of (avN 1 (lPv (eVar 0) lNil))) (eVar 1)) (aCons (eBin pFdiv (eCall PM.m_last_of (avN 1 (lPv (eVar 0) lNil))) (eVar 1)) aNil)))
  (gSeq (gAsgO 4 (oLst (aCons (eTup (aCons (eCall PM.m_in_wave (avN 3 (lPv (eVar 0) (lPv (eVar 1) (lPv (eVar 2) lNil))))) (aCons (eC (.int 0)) (aCons (eC (.int 1)) aNil)))) aNil)))
  (gSeq (gIf (tOf (eBin pGt (eVar 3) (eVar 2)))
  (gSeq (gApp 4 (eTup (aCons (eCall PM.m_in_wave (avN 3 (lPv (eVar 0) (lPv (eVar 1) (lPv (eVar 3) lNil))))) (aCons (eC (.int 0)) (aCons (eC (.int 1)) aNil)))))
  gNop)
  gNop)
  (gSeq (gAsg (eBin pFdiv (eBin pIx (eVar 0) (eC (.int 2))) (eBin pIx (eCall PM.m_bezout (avN 2 (lPv (eBin pIx (eVar 0) (eC (.int 2))) (lPv (eVar 1) lNil)))) (eC (.int 0)))) (aName 5))
  (gSeq (gFor (iRangeW2 (aCons (eBin pAdd (eVar 2) (eC (.int 1))) (aCons (eCallB pMin2 (aCons (eBin pAdd (eBin pAdd (eVar 2) (eC (.int 1))) (eVar 5)) (aCons (eVar 3) aNil))) aNil))) (aName 6)
  (gSeq (gApp 4 (eTup (aCons (eCall PM.m_in_wave (avN 3 (lPv (eVar 0) (lPv (eVar 1) (lPv (eVar 6) lNil))))) (aCons (eBin pMul (eVar 5) (eVar 1)) (aCons (eBin pAdd (eBin pFdiv (eBin pSub (eBin pSub (eVar 3) (eC (.int 1))) (eVar 6)) (eVar 5)) (eC (.int 1))) aNil)))))
  gNop))
  (gSeq (gRet (frz (oMv 4)))
  gNop)))))))
noncomputable def m_waves_of : List SV → List MO → FRes := mOf 7 g_waves_of
end PM
/-! PN: guards: the plain law. -/
namespace PN
def firstOf (l s r : Int) : Int := l + (r - l) % s
def lanesOf (l h s r : Int) : Int := max 0 ((h - firstOf l s r + s - 1) / s)
theorem first_ge {l s r : Int} (hs : 0 < s) : l ≤ firstOf l s r := by
  unfold firstOf
  have := Int.emod_nonneg (r - l) (show s ≠ 0 by omega)
  omega
theorem first_lt {l s r : Int} (hs : 0 < s) : firstOf l s r < l + s := by
  unfold firstOf
  have := Int.emod_lt_of_pos (r - l) hs
  omega
theorem first_mod {l s r : Int} (hs : 0 < s) (h0 : 0 ≤ r) (h1 : r < s) : firstOf l s r % s = r := by
  unfold firstOf
  have e : (l + (r - l) % s) % s = (l + (r - l)) % s := by rw [Int.add_emod, Int.emod_emod_of_dvd _ (Int.dvd_refl s), ← Int.add_emod]
  rw [e, show l + (r - l) = r by omega]
  exact Int.emod_eq_of_lt h0 h1
theorem lanes_nonneg (l h s r : Int) : 0 ≤ lanesOf l h s r := Int.le_max_left _ _
/-- a number below the count of lanes names a lane below high -/
theorem lanes_lt {l h s r k : Int} (hs : 0 < s) (hk : 0 ≤ k) : k < lanesOf l h s r ↔ firstOf l s r + s * k < h := by
  unfold lanesOf
  have e : (k < max 0 ((h - firstOf l s r + s - 1) / s)) ↔ k < (h - firstOf l s r + s - 1) / s := by
    constructor
    · intro z
      rcases Int.le_total 0 ((h - firstOf l s r + s - 1) / s) with q | q
      · rwa [Int.max_eq_right q] at z
      · rw [Int.max_eq_left q] at z; omega
    · intro z
      exact Int.lt_of_lt_of_le z (Int.le_max_right _ _)
  rw [e]
  have e2 : k < (h - firstOf l s r + s - 1) / s ↔ (k + 1) * s ≤ h - firstOf l s r + s - 1 := by
    rw [← Int.le_ediv_iff_mul_le hs]
    omega
  rw [e2, Int.add_mul, Int.one_mul, Int.mul_comm k s]
  omega
theorem lane_iff {l h s r x : Int} (hs : 0 < s) (h0 : 0 ≤ r) (h1 : r < s) : (l ≤ x ∧ x < h ∧ x % s = r) ↔ ∃ k, 0 ≤ k ∧ k < lanesOf l h s r ∧ x = firstOf l s r + s * k := by
  have fm := first_mod (l := l) hs h0 h1
  constructor
  · rintro ⟨a, b, c⟩
    have d : s ∣ x - firstOf l s r := by
      refine Int.dvd_of_emod_eq_zero ?_
      rw [Int.sub_emod, c, fm, Int.sub_self, Int.zero_emod]
    obtain ⟨k, hk⟩ := d
    have ex : x = firstOf l s r + s * k := by omega
    have k0 : 0 ≤ k := by
      have f1 := first_lt (l := l) (r := r) hs
      rcases Int.lt_or_le k 0 with z | z
      · have : s * k ≤ s * (-1) := Int.mul_le_mul_of_nonneg_left (by omega) (by omega)
        omega
      · exact z
    exact ⟨k, k0, (lanes_lt hs k0).mpr (by omega), ex⟩
  · rintro ⟨k, k0, k1, ex⟩
    have q := (lanes_lt hs k0).mp k1
    have f1 := first_ge (l := l) (r := r) hs
    have m : 0 ≤ s * k := Int.mul_nonneg (by omega) k0
    refine ⟨by omega, by omega, ?_⟩
    rw [ex, Int.add_mul_emod_self_left, fm]
/-! ### ascending lists -/
theorem asc_ext : ∀ {a b : List Int}, a.Pairwise (· < ·) → b.Pairwise (· < ·) → (∀ x, x ∈ a ↔ x ∈ b) → a = b
  | [], [], _, _, _ => rfl
  | [], y :: b, _, _, h => absurd ((h y).mpr List.mem_cons_self) (by simp)
  | x :: a, [], _, _, h => absurd ((h x).mp List.mem_cons_self) (by simp)
  | x :: a, y :: b, ha, hb, h => by
    rw [List.pairwise_cons] at ha hb
    have e : x = y := by
      rcases List.mem_cons.mp ((h x).mp List.mem_cons_self) with q | q
      · exact q
      · rcases List.mem_cons.mp ((h y).mpr List.mem_cons_self) with z | z
        · exact z.symm
        · have h1 := hb.1 x q
          have h2 := ha.1 y z
          omega
    subst e
    refine congrArg (x :: ·) (asc_ext ha.2 hb.2 fun z => ?_)
    constructor
    · intro hz
      rcases List.mem_cons.mp ((h z).mp (List.mem_cons_of_mem _ hz)) with q | q
      · have := ha.1 z hz; omega
      · exact q
    · intro hz
      rcases List.mem_cons.mp ((h z).mpr (List.mem_cons_of_mem _ hz)) with q | q
      · have := hb.1 z hz; omega
      · exact q
/-- lo, lo + 1, .. below hi -/
def seqI (lo hi : Int) : List Int := (List.range (hi - lo).toNat).map fun i : Nat => lo + i
theorem mem_seqI {lo hi x : Int} : x ∈ seqI lo hi ↔ lo ≤ x ∧ x < hi := by
  unfold seqI
  rw [List.mem_map]
  constructor
  · rintro ⟨i, hi', rfl⟩
    rw [List.mem_range] at hi'
    omega
  · rintro ⟨h1, h2⟩
    exact ⟨(x - lo).toNat, by rw [List.mem_range]; omega, by omega⟩
theorem seqI_asc (lo hi : Int) : (seqI lo hi).Pairwise (· < ·) := by
  unfold seqI
  rw [List.pairwise_map]
  refine List.Pairwise.imp ?_ List.pairwise_lt_range
  intro a b h
  omega
/-- the lanes of a guard, found one by one -/
def listed (l h s r : Int) : List Int := (seqI l h).filter fun x => decide (x % s = r)
theorem mem_listed {l h s r x : Int} : x ∈ listed l h s r ↔ l ≤ x ∧ x < h ∧ x % s = r := by
  unfold listed
  rw [List.mem_filter, mem_seqI, decide_eq_true_eq]
  exact ⟨fun h => ⟨h.1.1, h.1.2, h.2⟩, fun h => ⟨⟨h.1, h.2.1⟩, h.2.2⟩⟩
theorem listed_asc (l h s r : Int) : (listed l h s r).Pairwise (· < ·) := (seqI_asc l h).filter _
/-- the lanes by their numbers -/
def numbered (l h s r : Int) : List Int := (List.range (lanesOf l h s r).toNat).map fun k : Nat => firstOf l s r + s * k
theorem listed_eq {l h s r : Int} (hs : 0 < s) (h0 : 0 ≤ r) (h1 : r < s) : listed l h s r = numbered l h s r := by
  refine asc_ext (listed_asc _ _ _ _) ?_ fun x => ?_
  · unfold numbered
    rw [List.pairwise_map]
    refine List.Pairwise.imp ?_ List.pairwise_lt_range
    intro a b hab
    have : s * (a : Int) < s * (b : Int) := Int.mul_lt_mul_of_pos_left (by omega) hs
    omega
  · rw [mem_listed, lane_iff hs h0 h1]
    unfold numbered
    rw [List.mem_map]
    constructor
    · rintro ⟨k, a, b, rfl⟩
      exact ⟨k.toNat, by rw [List.mem_range]; omega, by rw [Int.toNat_of_nonneg a]⟩
    · rintro ⟨k, a, rfl⟩
      rw [List.mem_range] at a
      exact ⟨k, by omega, by omega, rfl⟩
theorem listed_len {l h s r : Int} (hs : 0 < s) (h0 : 0 ≤ r) (h1 : r < s) : ((listed l h s r).length : Int) = lanesOf l h s r := by
  rw [listed_eq hs h0 h1, numbered, List.length_map, List.length_range]
  exact Int.toNat_of_nonneg (lanes_nonneg _ _ _ _)
/-! ### common lanes -/
theorem dvd_of_emod {s x y : Int} (h : x % s = y % s) : s ∣ x - y := by
  refine Int.dvd_of_emod_eq_zero ?_
  rw [Int.sub_emod, h, Int.sub_self, Int.zero_emod]
theorem emod_of_dvd {s x y : Int} (h : s ∣ x - y) : x % s = y % s := by
  obtain ⟨k, hk⟩ := h
  have : x = y + s * k := by omega
  rw [this, Int.add_mul_emod_self_left]
/-! ### bounds by digits -/
theorem log_lt {x : Int} {n : Nat} (h : x.natAbs < 2 ^ n) (hn : 0 < n) : x.natAbs.log2 < n := by
  by_cases hz : x.natAbs = 0
  · rw [hz]; exact hn
  · exact (Nat.log2_lt hz).mpr h
theorem okMul_of {i j : Int} {a b : Nat} (hi : i.natAbs < 2 ^ a) (hj : j.natAbs < 2 ^ b) (ha : 0 < a) (hb : 0 < b) (h : a + b ≤ 1000000) : PL.okMul i j = true := by
  unfold PL.okMul
  have := log_lt hi ha
  have := log_lt hj hb
  exact decide_eq_true (by omega)
theorem okDiv_of {j : Int} {b : Nat} (h0 : j ≠ 0) (hj : j.natAbs < 2 ^ b) (hb : 0 < b) (h : b ≤ 9000) : PL.okDiv j = true := by
  unfold PL.okDiv
  have := log_lt hj hb
  exact decide_eq_true ⟨h0, by omega⟩
end PN
/-! PS: what the defs of guards.py answer. -/
namespace PM
open PySem PySem.Spec PyProof.Rows L2 PL PN
theorem at0 (a : PV) (t : List PV) : atI (a :: t) 0 = some a := by simp [atI, ixN]
theorem at1 (a b : PV) (t : List PV) : atI (a :: b :: t) 1 = some b := by simp [atI, ixN]; rw [if_pos (by omega)]; rfl
theorem at2 (a b c : PV) (t : List PV) : atI (a :: b :: c :: t) 2 = some c := by simp [atI, ixN]; rw [if_pos (by omega)]; rfl
theorem at3 (a b c d : PV) (t : List PV) : atI (a :: b :: c :: d :: t) 3 = some d := by simp [atI, ixN]; rw [if_pos (by omega)]; rfl
local macro_rules | `(tactic| walk_at "ev") => `(tactic| simp only [mOf, endF, start0, gSeq, gNop, gAsg, gRet, gRetO, gAsgO, gDrop, gIf, gOpt, gPar, gPar3, gAug, aName, asNil, asCons, aTup, aLst, setV, setO, eVar, eC, eBin, eUn, eTup, aNil, aCons, oLst, frz, eCall, oCall, avN, avK, permL, lNil, lPv, lSl, tOf, tTru, tNt, tAn, tOrr, eIf, eAn, eOr, eNt, eChain, eCallB, eIxM, gSetIx, getM, pTru, pAdd, pSub, pMul, pFdiv, pMod, pPow, pNeg, pLt, pLe, pGt, pGe, pIs, pIsNot, pAddI, pIx, pLen, pAbs, pMax2, pMin2, Res.bind_ok, Res.bind_ex, Res.bind_stuck, Res.fl_ok, Res.fl_ex, Res.fl_stuck, Res.opt_some, Res.opt_none, lowerA, PL.keyOf, getK, getAll, setAll, setK, distinct, List.map_cons, List.map_nil, List.length_cons, List.length_nil, List.replicate, List.cons_append, List.nil_append, List.append_nil, List.getElem?_cons_zero, List.getElem?_cons_succ, List.getElem?_nil, List.set_cons_zero, List.set_cons_succ, List.filterMap_cons, List.filterMap_nil, Option.bind_some, Option.map_some, Option.elim_some, if_true, if_false, Nat.reduceAdd, Nat.reduceSub, Nat.reduceEqDiff, Nat.reduceLeDiff, ↓reduceIte, Bool.false_eq_true, at0, at1, at2, at3, pEq, pNe, eqB_int, Option.some.injEq, decide_true, decide_false, not_true_eq_false, not_false_eq_true, Bool.and_true, ne_eq, reduceCtorEq, Bool.true_eq_false, Bool.not_true, Bool.not_false])
/-- a guard's tuple -/
abbrev gt (l h s r : Int) : PV := .tup [.int l, .int h, .int s, .int r]
theorem e_first_of (l h s r : Int) (hs : 0 < s) : m_first_of [.val (gt l h s r)] [] = .ok (.int (firstOf l s r)) [] := by
  unfold m_first_of g_first_of
  walk_at "ev"
  rw [if_pos (by omega)]
  simp only [Res.opt_some, Res.bind_ok, Res.fl_ok, Int.fmod_eq_emod_of_nonneg _ (show 0 ≤ s by omega), firstOf]
theorem e_lanes_of (l h s r : Int) (hs : 0 < s) (hd : okDiv s = true) : m_lanes_of [.val (gt l h s r)] [] = .ok (.int (lanesOf l h s r)) [] := by
  unfold m_lanes_of g_lanes_of
  walk_at "ev"
  simp only [e_first_of l h s r hs]
  walk_at "ev"
  rw [if_pos hd]
  walk_at "ev"
  rw [Int.fdiv_eq_ediv_of_nonneg _ (by omega)]
  unfold lanesOf
  congr 1
  congr 1
  omega
theorem e_lane_at (l h s r k : Int) (hs : 0 < s) (hm : okMul s k = true) : m_lane_at [.val (gt l h s r), .val (.int k)] [] = .ok (.int (firstOf l s r + s * k)) [] := by
  unfold m_lane_at g_lane_at
  walk_at "ev"
  simp only [e_first_of l h s r hs]
  walk_at "ev"
  simp only [if_pos hm]
  walk_at "ev"
def isGuard (l h s r : Int) : Bool := decide (0 ≤ l ∧ l ≤ h ∧ 0 ≤ r ∧ r < s)
theorem e_is_guard (l h s r : Int) : m_is_guard [.val (gt l h s r)] [] = .ok (.bl (isGuard l h s r)) [] := by
  unfold m_is_guard g_is_guard
  walk_at "ev"
  by_cases h1 : 0 ≤ l <;> by_cases h2 : l ≤ h <;> by_cases h3 : 0 ≤ r <;> by_cases h4 : r < s <;> simp [h1, h2, h3, h4, isGuard, pTru]
theorem guard_iff {l h s r : Int} : isGuard l h s r = true ↔ 0 ≤ l ∧ l ≤ h ∧ 0 ≤ r ∧ r < s := by simp [isGuard]
end PM
/-! PS2: bezout, meeting, and what the laws draw. -/
namespace PM
open PySem PySem.Spec PyProof.Rows L2 PL PN
local macro_rules | `(tactic| walk_at "ev") => `(tactic| simp only [mOf, endF, start0, gSeq, gNop, gAsg, gRet, gRetO, gAsgO, gDrop, gIf, gOpt, gPar, gPar3, gAug, aName, asNil, asCons, aTup, aLst, setV, setO, eVar, eC, eBin, eUn, eTup, aNil, aCons, oLst, frz, eCall, oCall, avN, avK, permL, lNil, lPv, lSl, tOf, tTru, tNt, tAn, tOrr, eIf, eAn, eOr, eNt, eChain, eCallB, eIxM, gSetIx, getM, pTru, pAdd, pSub, pMul, pFdiv, pMod, pPow, pNeg, pLt, pLe, pGt, pGe, pIs, pIsNot, pAddI, pIx, pLen, pAbs, pMax2, pMin2, Res.bind_ok, Res.bind_ex, Res.bind_stuck, Res.fl_ok, Res.fl_ex, Res.fl_stuck, Res.opt_some, Res.opt_none, lowerA, PL.keyOf, getK, getAll, setAll, setK, distinct, List.map_cons, List.map_nil, List.length_cons, List.length_nil, List.replicate, List.cons_append, List.nil_append, List.append_nil, List.getElem?_cons_zero, List.getElem?_cons_succ, List.getElem?_nil, List.set_cons_zero, List.set_cons_succ, List.filterMap_cons, List.filterMap_nil, Option.bind_some, Option.map_some, Option.elim_some, if_true, if_false, Nat.reduceAdd, Nat.reduceSub, Nat.reduceEqDiff, Nat.reduceLeDiff, ↓reduceIte, Bool.false_eq_true, at0, at1, at2, at3, pEq, pNe, eqB_int, Option.some.injEq, decide_true, decide_false, not_true_eq_false, not_false_eq_true, Bool.and_true, ne_eq, reduceCtorEq, Bool.true_eq_false, Bool.not_true, Bool.not_false])
noncomputable def l_bezout_1a : Stt → Res Bool := (tOf (eBin pNe (eVar 3) (eC (.int 0))))
noncomputable def l_bezout_1b : Stt → Fl := (gSeq (gAsg (eBin pFdiv (eVar 2) (eVar 3)) (aName 6)) (gSeq (gPar 2 3 (aCons (eVar 3) (aCons (eBin pSub (eVar 2) (eBin pMul (eVar 6) (eVar 3))) aNil))) (gSeq (gPar 4 5 (aCons (eVar 5) (aCons (eBin pSub (eVar 4) (eBin pMul (eVar 6) (eVar 5))) aNil))) gNop)))
theorem g_bezout_eq : g_bezout = (gSeq (gAsg (eTup (aCons (eVar 0) (aCons (eVar 1) (aCons (eC (.int 1)) (aCons (eC (.int 0)) aNil))))) (aTup 4 (asCons (aName 2) (asCons (aName 3) (asCons (aName 4) (asCons (aName 5) asNil)))))) (gSeq (gWhile l_bezout_1a l_bezout_1b) (gSeq (gRet (eIf (tOf (eBin pGe (eVar 2) (eC (.int 0)))) (eTup (aCons (eVar 2) (aCons (eVar 4) aNil))) (eTup (aCons (eUn pNeg (eVar 2)) (aCons (eUn pNeg (eVar 4)) aNil))))) gNop))) := rfl
/-- what holds in the loop of bezout -/
structure BzInv (a b f s x y : Int) : Prop where
  f0 : 0 < f
  s0 : 0 ≤ s
  dv : ∀ d, d ∣ f → d ∣ s → d ∣ a ∧ d ∣ b
  u1 : ∃ u, f = a * x + b * u
  u2 : ∃ u, s = a * y + b * u
  sg : ∃ e X Y : Int, (e = 1 ∨ e = -1) ∧ x = e * X ∧ y = -(e * Y) ∧ 0 ≤ X ∧ 0 ≤ Y ∧ X ≤ b ∧ X * s + Y * f = b
theorem BzInv.next {a b f s x y : Int} (i : BzInv a b f s x y) (hs : 0 < s) : BzInv a b s (f - f / s * s) y (x - f / s * y) := by
  have hm : f - f / s * s = f % s := by rw [Int.emod_def, Int.mul_comm]
  have t0 : 0 ≤ f / s := Int.ediv_nonneg (Int.le_of_lt i.f0) i.s0
  refine ⟨hs, ?_, ?_, i.u2, ?_, ?_⟩
  · rw [hm]; exact Int.emod_nonneg _ (by omega)
  · intro d h1 h2
    refine i.dv d ?_ h1
    have : f = (f - f / s * s) + f / s * s := by omega
    rw [this]
    exact Int.dvd_add h2 ((show d ∣ f / s * s from Int.dvd_trans h1 (Int.dvd_mul_left _ _)))
  · obtain ⟨u, hu⟩ := i.u1
    obtain ⟨v, hv⟩ := i.u2
    refine ⟨u - f / s * v, ?_⟩
    generalize f / s = t at *
    subst hu hv
    grind
  · obtain ⟨e, X, Y, he, hx, hy, hX, hY, hb, hq⟩ := i.sg
    refine ⟨-e, Y, X + f / s * Y, by omega, by grind, ?_, hY, ?_, ?_, ?_⟩
    · generalize f / s = t at *
      subst hx hy
      grind
    · have := Int.mul_nonneg t0 hY; omega
    · have h1 : 0 ≤ X * s := Int.mul_nonneg hX i.s0
      have h2 : Y * 1 ≤ Y * f := Int.mul_le_mul_of_nonneg_left i.f0 hY
      omega
    · generalize f / s = t at *
      grind
theorem bz_loop (a b : Int) (hb : b.natAbs < 2 ^ 4000) : ∀ (n : Nat) (f s x y : Int) (w : Option SV), s.toNat < n → f.natAbs < 2 ^ 4000 → s.natAbs < 2 ^ 4000 → BzInv a b f s x y →
    ∃ g x' y' w', whileN l_bezout_1a l_bezout_1b n ⟨[some (.val (.int a)), some (.val (.int b)), some (.val (.int f)), some (.val (.int s)), some (.val (.int x)), some (.val (.int y)), w], []⟩ = .nx ⟨[some (.val (.int a)), some (.val (.int b)), some (.val (.int g)), some (.val (.int 0)), some (.val (.int x')), some (.val (.int y')), w'], []⟩ ∧ BzInv a b g 0 x' y' ∧ g.natAbs < 2 ^ 4000
  | 0, f, s, x, y, w, h, _, _, _ => by omega
  | n + 1, f, s, x, y, w, h, hf, hs, i => by
    have s0 := i.s0
    have f0 := i.f0
    unfold whileN
    by_cases z : s = 0
    · subst z
      refine ⟨f, x, y, w, ?_, i, hf⟩
      unfold l_bezout_1a
      walk_at "ev"
      simp
    · have hd : okDiv s = true := okDiv_of z hs (by decide) (by decide)
      have f1 : f / s ≤ f := Int.ediv_le_self s (Int.le_of_lt f0)
      have t0 : 0 ≤ f / s := Int.ediv_nonneg (Int.le_of_lt f0) s0
      have e1 : f.fdiv s = f / s := Int.fdiv_eq_ediv_of_nonneg _ s0
      obtain ⟨e, X, Y, he, hx, hy, hX, hY, hXb, hq⟩ := i.sg
      have hY2 : Y ≤ b := by
        have h1 : 0 ≤ X * s := Int.mul_nonneg hX i.s0
        have h2 : Y * 1 ≤ Y * f := Int.mul_le_mul_of_nonneg_left i.f0 hY
        omega
      have hyb : y.natAbs < 2 ^ 4000 := by
        have : y.natAbs ≤ b.natAbs := by rcases he with rfl | rfl <;> omega
        omega
      have m1 : okMul (f / s) s = true := okMul_of (a := 4000) (b := 4000) (by omega) hs (by decide) (by decide) (by decide)
      have m2 : okMul (f / s) y = true := okMul_of (a := 4000) (b := 4000) (by omega) hyb (by decide) (by decide) (by decide)
      have i2 := i.next (by omega)
      have hm : f - f / s * s = f % s := by rw [Int.emod_def, Int.mul_comm]
      have hl : f % s < s := Int.emod_lt_of_pos _ (by omega)
      have hn : 0 ≤ f % s := Int.emod_nonneg _ (by omega)
      obtain ⟨g, x', y', w', k1, k2, k3⟩ := bz_loop a b hb n s (f - f / s * s) y (x - f / s * y) (some (.val (.int (f / s)))) (by rw [hm]; omega) hs (by rw [hm]; omega) i2
      refine ⟨g, x', y', w', ?_, k2, k3⟩
      rw [← k1]
      unfold l_bezout_1a l_bezout_1b
      walk_at "ev"
      simp only [beq_eq_false_iff_ne.mpr z, if_pos hd, e1]
      walk_at "ev"
      simp only [if_pos m1]
      walk_at "ev"
      simp only [if_pos m2]
      walk_at "ev"
theorem e_bezout (a b : Int) (ha : 0 < a) (hb : 0 < b) (ha2 : a.natAbs < 2 ^ 4000) (hb2 : b.natAbs < 2 ^ 4000) : ∃ g x q q2 y, m_bezout [.val (.int a), .val (.int b)] [] = .ok (.tup [.int g, .int x]) [] ∧ 0 < g ∧ g.natAbs < 2 ^ 4000 ∧ x.natAbs < 2 ^ 4000 ∧ a = g * q ∧ b = g * q2 ∧ a * x + b * y = g := by
  have i0 : BzInv a b a b 1 0 := ⟨ha, Int.le_of_lt hb, fun d h1 h2 => ⟨h1, h2⟩, ⟨0, by omega⟩, ⟨1, by omega⟩, ⟨1, 1, 0, .inl rfl, by omega, by omega, by omega, by omega, by omega, by omega⟩⟩
  obtain ⟨g, x, y, w, k1, k2, k3⟩ := bz_loop a b hb2 (b.toNat + 1) a b 1 0 none (by omega) ha2 hb2 i0
  obtain ⟨d1, d2⟩ := k2.dv g (Int.dvd_refl g) (Int.dvd_zero g)
  obtain ⟨q, hq⟩ := d1
  obtain ⟨q2, hq2⟩ := d2
  obtain ⟨u, hu⟩ := k2.u1
  have g0 := k2.f0
  obtain ⟨e, X, Y, he, hx, hy, hX, hY, hXb, hz⟩ := k2.sg
  refine ⟨g, x, q, q2, u, ?_, g0, k3, ?_, hq, hq2, hu.symm⟩
  · unfold m_bezout
    rw [g_bezout_eq]
    walk_at "ev"
    rw [gWhile_eq k1 (by simp)]
    walk_at "ev"
    simp only [decide_eq_true (show (g : Int) ≥ 0 by omega)]
    walk_at "ev"
  · have : x.natAbs ≤ b.natAbs := by rcases he with rfl | rfl <;> omega
    omega
end PM
/-! PS3: meeting, met, and what the laws draw. -/
namespace PM
open PySem PySem.Spec PyProof.Rows L2 PL PN
theorem ix30 : ixN 3 0 = some 0 := by decide
theorem ix31 : ixN 3 1 = some 1 := by decide
theorem ix32 : ixN 3 2 = some 2 := by decide
local macro_rules | `(tactic| walk_at "ev") => `(tactic| try simp only [mOf, endF, start0, gSeq, gNop, gAsg, gRet, gRetO, gAsgO, gDrop, gIf, gOpt, gPar, gPar3, gAug, aName, asNil, asCons, aTup, aLst, setV, setO, eVar, eC, eBin, eUn, eTup, aNil, aCons, oLst, frz, eCall, oCall, avN, avK, permL, lNil, lPv, lSl, tOf, tTru, tNt, tAn, tOrr, eIf, eAn, eOr, eNt, eChain, eCallB, eIxM, gSetIx, getM, pTru, pAdd, pSub, pMul, pFdiv, pMod, pPow, pNeg, pLt, pLe, pGt, pGe, pIs, pIsNot, pAddI, pIx, pLen, pAbs, pMax2, pMin2, Res.bind_ok, Res.bind_ex, Res.bind_stuck, Res.fl_ok, Res.fl_ex, Res.fl_stuck, Res.opt_some, Res.opt_none, lowerA, PL.keyOf, getK, getAll, setAll, setK, distinct, List.map_cons, List.map_nil, List.length_cons, List.length_nil, List.replicate, List.cons_append, List.nil_append, List.append_nil, List.getElem?_cons_zero, List.getElem?_cons_succ, List.getElem?_nil, List.set_cons_zero, List.set_cons_succ, List.filterMap_cons, List.filterMap_nil, Option.bind_some, Option.map_some, Option.elim_some, if_true, if_false, Nat.reduceAdd, Nat.reduceSub, Nat.reduceEqDiff, Nat.reduceLeDiff, ↓reduceIte, Bool.false_eq_true, at0, at1, at2, at3, pEq, pNe, eqB_int, Option.some.injEq, decide_true, decide_false, not_true_eq_false, not_false_eq_true, Bool.and_true, ne_eq, reduceCtorEq, Bool.true_eq_false, Bool.not_true, Bool.not_false])
local macro_rules | `(tactic| walk_at "evs") => `(tactic| simp only [*, mOf, endF, start0, gSeq, gNop, gAsg, gRet, gRetO, gAsgO, gDrop, gIf, gOpt, gPar, gPar3, gAug, aName, asNil, asCons, aTup, aLst, setV, setO, eVar, eC, eBin, eUn, eTup, aNil, aCons, oLst, frz, eCall, oCall, avN, avK, permL, lNil, lPv, lSl, tOf, tTru, tNt, tAn, tOrr, eIf, eAn, eOr, eNt, eChain, eCallB, eIxM, gSetIx, getM, pTru, pAdd, pSub, pMul, pFdiv, pMod, pPow, pNeg, pLt, pLe, pGt, pGe, pIs, pIsNot, pAddI, pIx, pLen, pAbs, pMax2, pMin2, Res.bind_ok, Res.bind_ex, Res.bind_stuck, Res.fl_ok, Res.fl_ex, Res.fl_stuck, Res.opt_some, Res.opt_none, lowerA, PL.keyOf, getK, getAll, setAll, setK, distinct, List.map_cons, List.map_nil, List.length_cons, List.length_nil, List.replicate, List.cons_append, List.nil_append, List.append_nil, List.getElem?_cons_zero, List.getElem?_cons_succ, List.getElem?_nil, List.set_cons_zero, List.set_cons_succ, List.filterMap_cons, List.filterMap_nil, Option.bind_some, Option.map_some, Option.elim_some, if_true, if_false, Nat.reduceAdd, Nat.reduceSub, Nat.reduceEqDiff, Nat.reduceLeDiff, ↓reduceIte, Bool.false_eq_true, at0, at1, at2, at3, pEq, pNe, eqB_int, Option.some.injEq, decide_true, decide_false, not_true_eq_false, not_false_eq_true, Bool.and_true, ne_eq, reduceCtorEq, Bool.true_eq_false, Bool.not_true, Bool.not_false, eq_self, not_true_eq_false, not_false_eq_true, ix30, ix31, ix32])
/-! ### what the laws draw -/
def Src (n : Nat) (m : MO) : Prop := ∃ a b c : Int, m = .lst [.int a, .int b, .int c] ∧ 0 ≤ a ∧ a.natAbs < 2 ^ 13000 ∧ 0 ≤ b ∧ b < 2305843009213693951 ∧ 0 ≤ c ∧ c ≤ n
theorem Src.mono {n k : Nat} {m : MO} (h : Src n m) (hk : n ≤ k) : Src k m := by
  obtain ⟨a, b, c, h1, h2, h3, h4, h5, h6, h7⟩ := h
  exact ⟨a, b, c, h1, h2, h3, h4, h5, h6, by omega⟩
theorem okPow3 {x : Int} {n : Nat} (h : x.natAbs < 2 ^ n) (hn : n ≤ 300000) (h0 : 0 < n) : okPow x 3 = true := by
  unfold okPow
  have := log_lt h h0
  exact decide_eq_true ⟨by decide, by show (x.natAbs.log2 + 1) * 3 ≤ 1000000; omega⟩
end PM
/-! PS4: the source of what the laws draw. -/
namespace PM
open PySem PySem.Spec PyProof.Rows L2 PL PN
local macro_rules | `(tactic| walk_at "ev") => `(tactic| try simp only [mOf, endF, start0, gSeq, gNop, gAsg, gRet, gRetO, gAsgO, gDrop, gIf, gOpt, gPar, gPar3, gAug, aName, asNil, asCons, aTup, aLst, setV, setO, eVar, eC, eBin, eUn, eTup, aNil, aCons, oLst, frz, eCall, oCall, avN, avK, permL, lNil, lPv, lSl, tOf, tTru, tNt, tAn, tOrr, eIf, eAn, eOr, eNt, eChain, eCallB, eIxM, gSetIx, getM, pTru, pAdd, pSub, pMul, pFdiv, pMod, pPow, pNeg, pLt, pLe, pGt, pGe, pIs, pIsNot, pAddI, pIx, pLen, pAbs, pMax2, pMin2, Res.bind_ok, Res.bind_ex, Res.bind_stuck, Res.fl_ok, Res.fl_ex, Res.fl_stuck, Res.opt_some, Res.opt_none, lowerA, PL.keyOf, getK, getAll, setAll, setK, distinct, List.map_cons, List.map_nil, List.length_cons, List.length_nil, List.replicate, List.cons_append, List.nil_append, List.append_nil, List.getElem?_cons_zero, List.getElem?_cons_succ, List.getElem?_nil, List.set_cons_zero, List.set_cons_succ, List.filterMap_cons, List.filterMap_nil, Option.bind_some, Option.map_some, Option.elim_some, if_true, if_false, Nat.reduceAdd, Nat.reduceSub, Nat.reduceEqDiff, Nat.reduceLeDiff, ↓reduceIte, Bool.false_eq_true, at0, at1, at2, at3, pEq, pNe, eqB_int, Option.some.injEq, decide_true, decide_false, not_true_eq_false, not_false_eq_true, Bool.and_true, ne_eq, reduceCtorEq, Bool.true_eq_false, Bool.not_true, Bool.not_false])
local macro_rules | `(tactic| walk_at "evs") => `(tactic| simp only [*, mOf, endF, start0, gSeq, gNop, gAsg, gRet, gRetO, gAsgO, gDrop, gIf, gOpt, gPar, gPar3, gAug, aName, asNil, asCons, aTup, aLst, setV, setO, eVar, eC, eBin, eUn, eTup, aNil, aCons, oLst, frz, eCall, oCall, avN, avK, permL, lNil, lPv, lSl, tOf, tTru, tNt, tAn, tOrr, eIf, eAn, eOr, eNt, eChain, eCallB, eIxM, gSetIx, getM, pTru, pAdd, pSub, pMul, pFdiv, pMod, pPow, pNeg, pLt, pLe, pGt, pGe, pIs, pIsNot, pAddI, pIx, pLen, pAbs, pMax2, pMin2, Res.bind_ok, Res.bind_ex, Res.bind_stuck, Res.fl_ok, Res.fl_ex, Res.fl_stuck, Res.opt_some, Res.opt_none, lowerA, PL.keyOf, getK, getAll, setAll, setK, distinct, List.map_cons, List.map_nil, List.length_cons, List.length_nil, List.replicate, List.cons_append, List.nil_append, List.append_nil, List.getElem?_cons_zero, List.getElem?_cons_succ, List.getElem?_nil, List.set_cons_zero, List.set_cons_succ, List.filterMap_cons, List.filterMap_nil, Option.bind_some, Option.map_some, Option.elim_some, if_true, if_false, Nat.reduceAdd, Nat.reduceSub, Nat.reduceEqDiff, Nat.reduceLeDiff, ↓reduceIte, Bool.false_eq_true, at0, at1, at2, at3, pEq, pNe, eqB_int, Option.some.injEq, decide_true, decide_false, not_true_eq_false, not_false_eq_true, Bool.and_true, ne_eq, reduceCtorEq, Bool.true_eq_false, Bool.not_true, Bool.not_false, eq_self, not_true_eq_false, not_false_eq_true, ix30, ix31, ix32])
end PM
/-! PLE: more about the mirrors' words. -/
namespace PL
open PySem PySem.Spec PyProof.Rows L2
theorem rng_seqI (l h : Int) : rng l (h - l).toNat = (PN.seqI l h).map PV.int := by
  unfold rng PN.seqI
  rw [List.map_map]
  rfl
theorem filterMap_some' {α β : Type} (f : α → β) (l : List α) : l.filterMap (fun x => some (f x)) = l.map f := by
  induction l with
  | nil => rfl
  | cons x r ih => simp [ih]
theorem atI_at {l : List PV} {i : Nat} {p : PV} (h : l[i]? = some p) : atI l i = some p := by
  have hi := (List.getElem?_eq_some_iff.mp h).1
  simp only [atI, ixN]
  rw [if_pos (by omega)]
  simp only [if_pos (show (i : Int) < (l.length : Int) by omega), Option.bind_some, Int.toNat_natCast, h]
end PL
/-! PQN: lengths without conflicts: the plain law. -/
namespace PN
/-- how many neighbours of a row have different banks -/
def spread (b l : Int) : Int := b / (Int.gcd l b : Int)
def fr (w b l : Int) : Bool := decide (w ≤ spread b l)
theorem gcd_of {a b g q q2 x y : Int} (h0 : 0 < g) (h1 : a = g * q) (h2 : b = g * q2) (h3 : a * x + b * y = g) : (Int.gcd a b : Int) = g := by
  refine Int.dvd_antisymm (Int.natCast_nonneg _) (Int.le_of_lt h0) ?_ (Int.dvd_coe_gcd ⟨q, h1⟩ ⟨q2, h2⟩)
  rw [← h3]
  exact Int.dvd_add (Int.dvd_trans (Int.gcd_dvd_left ..) (Int.dvd_mul_right _ _)) (Int.dvd_trans (Int.gcd_dvd_right ..) (Int.dvd_mul_right _ _))
theorem gcd_period (l b k : Int) : Int.gcd (l + b * k) b = Int.gcd l b := by
  have h : (Int.gcd (l + b * k) b : Int) = (Int.gcd l b : Int) := by
    refine Int.dvd_antisymm (Int.natCast_nonneg _) (Int.natCast_nonneg _) (Int.dvd_coe_gcd ?_ (Int.gcd_dvd_right ..)) (Int.dvd_coe_gcd ?_ (Int.gcd_dvd_right ..))
    · have h1 : (Int.gcd (l + b * k) b : Int) ∣ l + b * k := Int.gcd_dvd_left ..
      have h2 : (Int.gcd (l + b * k) b : Int) ∣ b * k := Int.dvd_trans (Int.gcd_dvd_right ..) (Int.dvd_mul_right _ _)
      have := Int.dvd_sub h1 h2
      rwa [Int.add_sub_cancel] at this
    · exact Int.dvd_add (Int.gcd_dvd_left ..) (Int.dvd_trans (Int.gcd_dvd_right ..) (Int.dvd_mul_right _ _))
  omega
theorem gcd_mod (l b : Int) : Int.gcd (l % b) b = Int.gcd l b := by
  rw [Int.emod_def, show l - b * (l / b) = l + b * (-(l / b)) by rw [Int.mul_neg]; omega, gcd_period]
theorem gcd_pos {l b : Int} (h : 0 < b) : 0 < (Int.gcd l b : Int) := by
  have h1 : (Int.gcd l b : Int) ∣ b := Int.gcd_dvd_right ..
  have h2 : 0 ≤ (Int.gcd l b : Int) := Int.natCast_nonneg _
  rcases Int.lt_or_le 0 (Int.gcd l b : Int) with z | z
  · exact z
  · have : (Int.gcd l b : Int) = 0 := by omega
    rw [this] at h1
    obtain ⟨c, hc⟩ := h1
    rw [Int.zero_mul] at hc
    omega
theorem spread_pos {l b : Int} (h : 0 < b) : 0 < spread b l := by
  unfold spread
  have g := gcd_pos (l := l) h
  have : (Int.gcd l b : Int) ≤ b := Int.le_of_dvd h (Int.gcd_dvd_right ..)
  exact Int.ediv_pos_of_pos_of_dvd h (by omega) (Int.gcd_dvd_right ..)
theorem spread_le {l b : Int} (h : 0 < b) : spread b l ≤ b := by
  unfold spread
  exact Int.ediv_le_self _ (by omega)
theorem spread_mul {l b : Int} : (Int.gcd l b : Int) * spread b l = b := Int.mul_ediv_cancel' (Int.gcd_dvd_right ..)
/-- each number once -/
theorem once_len (ns : List Int) : ∀ acc : List Int, (ns.foldl PyProof.Rows.step_dedup acc).length ≤ acc.length + ns.length ∧ ((ns.foldl PyProof.Rows.step_dedup acc).length = acc.length + ns.length ↔ ns.Nodup ∧ ∀ x ∈ ns, x ∉ acc) := by
  induction ns with
  | nil => intro acc; simp
  | cons n r ih =>
    intro acc
    simp only [List.foldl_cons, List.length_cons, List.nodup_cons, List.mem_cons, forall_eq_or_imp]
    by_cases h : n ∈ acc
    · have e : PyProof.Rows.step_dedup acc n = acc := by
        unfold PyProof.Rows.step_dedup
        rw [if_pos]
        exact List.any_eq_true.mpr ⟨n, h, by simp⟩
      rw [e]
      obtain ⟨h1, h2⟩ := ih acc
      refine ⟨by omega, ⟨fun z => by omega, fun z => absurd h z.2.1⟩⟩
    · have e : PyProof.Rows.step_dedup acc n = acc ++ [n] := by
        unfold PyProof.Rows.step_dedup
        rw [if_neg]
        intro z
        obtain ⟨y, h1, h2⟩ := List.any_eq_true.mp z
        have : y = n := by simpa using h2
        exact h (this ▸ h1)
      rw [e]
      obtain ⟨h1, h2⟩ := ih (acc ++ [n])
      rw [List.length_append, List.length_singleton] at h1 h2
      refine ⟨by omega, ?_⟩
      rw [show acc.length + (r.length + 1) = acc.length + 1 + r.length by omega, h2]
      simp only [List.mem_append, List.mem_singleton, not_or]
      constructor
      · rintro ⟨a, b⟩
        exact ⟨⟨fun z => (b n z).2 rfl, a⟩, h, fun x hx => (b x hx).1⟩
      · rintro ⟨⟨a, b⟩, _, c⟩
        exact ⟨b, fun x hx => ⟨c x hx, fun z => a (z ▸ hx)⟩⟩
end PN
/-! PQ: pools, and what banks.py answers of lengths. -/
namespace PM
open PySem PySem.Spec PyProof.Rows L2 PL PN
local macro_rules | `(tactic| walk_at "ev") => `(tactic| try simp only [mOf, endF, start0, gSeq, gNop, gAsg, gRet, gRetO, gAsgO, gDrop, gIf, gOpt, gPar, gPar3, gAug, aName, asNil, asCons, aTup, aLst, setV, setO, eVar, eC, eBin, eUn, eTup, aNil, aCons, oLst, frz, eCall, oCall, avN, avK, permL, lNil, lPv, lSl, tOf, tTru, tNt, tAn, tOrr, eIf, eAn, eOr, eNt, eChain, eCallB, eIxM, gSetIx, getM, pTru, pAdd, pSub, pMul, pFdiv, pMod, pPow, pNeg, pLt, pLe, pGt, pGe, pIs, pIsNot, pAddI, pIx, pLen, pAbs, pMax2, pMin2, Res.bind_ok, Res.bind_ex, Res.bind_stuck, Res.fl_ok, Res.fl_ex, Res.fl_stuck, Res.opt_some, Res.opt_none, lowerA, PL.keyOf, getK, getAll, setAll, setK, distinct, List.map_cons, List.map_nil, List.length_cons, List.length_nil, List.replicate, List.cons_append, List.nil_append, List.append_nil, List.getElem?_cons_zero, List.getElem?_cons_succ, List.getElem?_nil, List.set_cons_zero, List.set_cons_succ, List.filterMap_cons, List.filterMap_nil, Option.bind_some, Option.map_some, Option.elim_some, if_true, if_false, Nat.reduceAdd, Nat.reduceSub, Nat.reduceEqDiff, Nat.reduceLeDiff, ↓reduceIte, Bool.false_eq_true, at0, at1, at2, at3, pEq, pNe, eqB_int, Option.some.injEq, decide_true, decide_false, not_true_eq_false, not_false_eq_true, Bool.and_true, ne_eq, reduceCtorEq, Bool.true_eq_false, Bool.not_true, Bool.not_false, frz, noEx, wipeS, wipeR, backS, backR, keepV, oComp, gFor, iAny, iRange1, iRange2, iRange3, iRangeW1, iRangeW2, eCallQ, oRg2, oRg1, oRg, tYesD, pIn, pNotIn, eSl, pNo, pSo, forL_nil, gApp, gParO, List.not_mem_nil, List.not_mem_nil])
local macro_rules | `(tactic| walk_at "evs") => `(tactic| simp only [*, mOf, endF, start0, gSeq, gNop, gAsg, gRet, gRetO, gAsgO, gDrop, gIf, gOpt, gPar, gPar3, gAug, aName, asNil, asCons, aTup, aLst, setV, setO, eVar, eC, eBin, eUn, eTup, aNil, aCons, oLst, frz, eCall, oCall, avN, avK, permL, lNil, lPv, lSl, tOf, tTru, tNt, tAn, tOrr, eIf, eAn, eOr, eNt, eChain, eCallB, eIxM, gSetIx, getM, pTru, pAdd, pSub, pMul, pFdiv, pMod, pPow, pNeg, pLt, pLe, pGt, pGe, pIs, pIsNot, pAddI, pIx, pLen, pAbs, pMax2, pMin2, Res.bind_ok, Res.bind_ex, Res.bind_stuck, Res.fl_ok, Res.fl_ex, Res.fl_stuck, Res.opt_some, Res.opt_none, lowerA, PL.keyOf, getK, getAll, setAll, setK, distinct, List.map_cons, List.map_nil, List.length_cons, List.length_nil, List.replicate, List.cons_append, List.nil_append, List.append_nil, List.getElem?_cons_zero, List.getElem?_cons_succ, List.getElem?_nil, List.set_cons_zero, List.set_cons_succ, List.filterMap_cons, List.filterMap_nil, Option.bind_some, Option.map_some, Option.elim_some, if_true, if_false, Nat.reduceAdd, Nat.reduceSub, Nat.reduceEqDiff, Nat.reduceLeDiff, ↓reduceIte, Bool.false_eq_true, at0, at1, at2, at3, pEq, pNe, eqB_int, Option.some.injEq, decide_true, decide_false, not_true_eq_false, not_false_eq_true, Bool.and_true, ne_eq, reduceCtorEq, Bool.true_eq_false, Bool.not_true, Bool.not_false, frz, noEx, wipeS, wipeR, backS, backR, keepV, oComp, gFor, iAny, iRange1, iRange2, iRange3, iRangeW1, iRangeW2, eCallQ, oRg2, oRg1, oRg, tYesD, pIn, pNotIn, eSl, pNo, pSo, forL_nil, gApp, gParO, List.not_mem_nil, List.not_mem_nil, eq_self, not_true_eq_false, not_false_eq_true, ix30, ix31, ix32, Bool.and_self, and_self, and_true, true_and])
theorem seq_nx {f g : Stt → Fl} {s s1 : Stt} (h : f s = .nx s1) : gSeq f g s = g s1 := by simp only [gSeq, h]
theorem seq_rt {f g : Stt → Fl} {s s1 : Stt} {v : PV} (h : f s = .rt v s1) : gSeq f g s = .rt v s1 := by simp only [gSeq, h]
/-! ### pools -/
def Pool (n : Nat) (m : MO) : Prop := ∃ a b c : Int, m = .lst [.int a, .int b, .int c] ∧ 0 ≤ a ∧ 0 ≤ b ∧ b < 2 ^ 100 ∧ 0 ≤ c ∧ c ≤ n
theorem Pool.mono {n k : Nat} {m : MO} (h : Pool n m) (hk : n ≤ k) : Pool k m := by
  obtain ⟨a, b, c, h1, h2, h3, h4, h5, h6⟩ := h
  exact ⟨a, b, c, h1, h2, h3, h4, h5, by omega⟩
def pmix1 (b c : Int) : Int := ((b + 15488257 * c) ^ (Int.toNat 3)).fmod 162259276829213363391578010288127
def pmix2 (b c : Int) : Int := ((pmix1 b c + 32453651 * c) ^ (Int.toNat 5)).fmod 170141183460469231731687303715884105727
theorem okPow5 {x : Int} {n : Nat} (h : x.natAbs < 2 ^ n) (hn : n ≤ 150000) (h0 : 0 < n) : okPow x 5 = true := by
  have : x.natAbs.log2 < n := by
    by_cases z : x.natAbs = 0
    · rw [z]; simpa using h0
    · exact (Nat.log2_lt z).mpr h
  exact decide_eq_true ⟨by decide, by show (x.natAbs.log2 + 1) * 5 ≤ 1000000; omega⟩
theorem e_pdraw0 (a b c many : Int) (ha : decide (a > 0) = true) (hz : (many = 0) = False) (hd : okDiv many = true) :
    m__law_draw_2 [.bor 0, .val (.int many)] [.lst [.int a, .int b, .int c]] = .ok (.int (a.fmod many)) [.lst [.int (a.fdiv many), .int b, .int c]] := by
  unfold m__law_draw_2 g__law_draw_2
  iterate 6 (walk_at "ev"; try walk_at "evs")
theorem e_pdraw1 (a b c many : Int) (ha : decide (a > 0) = false) (hz : (many = 0) = False) (k1 : okMul 15488257 (c + 1) = true) (k2 : okPow (b + 15488257 * (c + 1)) 3 = true) (z1 : ((162259276829213363391578010288127 : Int) = 0) = False) (k3 : okMul 32453651 (c + 1) = true)
    (k4 : okPow (pmix1 b (c + 1) + 32453651 * (c + 1)) 5 = true) (z2 : ((170141183460469231731687303715884105727 : Int) = 0) = False) (k5 : okDiv 1048576 = true) (e1 : ((b + 15488257 * (c + 1)) ^ (Int.toNat 3)).fmod 162259276829213363391578010288127 = pmix1 b (c + 1)) (e2 : ((pmix1 b (c + 1) + 32453651 * (c + 1)) ^ (Int.toNat 5)).fmod 170141183460469231731687303715884105727 = pmix2 b (c + 1)) :
    m__law_draw_2 [.bor 0, .val (.int many)] [.lst [.int a, .int b, .int c]] = .ok (.int (((pmix2 b (c + 1)).fdiv 1048576).fmod many)) [.lst [.int a, .int b, .int (c + 1)]] := by
  unfold m__law_draw_2 g__law_draw_2
  iterate 10 (walk_at "ev"; try walk_at "evs")
theorem e_pdraw {n : Nat} {m : MO} (h : Pool n m) (hn : n < 2 ^ 60) (many : Int) (h0 : 0 < many) (hb : many.natAbs < 2 ^ 8000) :
    ∃ d m', m__law_draw_2 [.bor 0, .val (.int many)] [m] = .ok (.int d) [m'] ∧ 0 ≤ d ∧ d < many ∧ Pool (n + 1) m' := by
  obtain ⟨a, b, c, rfl, a0, b0, bb, c0, cb⟩ := h
  have hd : okDiv many = true := okDiv_of (by omega) hb (by decide) (by decide)
  by_cases ha : 0 < a
  · refine ⟨_, _, e_pdraw0 a b c many (decide_eq_true ha) (by simp; omega) hd, ?_⟩
    rw [Int.fmod_eq_emod_of_nonneg _ (by omega), Int.fdiv_eq_ediv_of_nonneg _ (by omega)]
    exact ⟨Int.emod_nonneg _ (by omega), Int.emod_lt_of_pos _ h0, a / many, b, c, rfl, Int.ediv_nonneg a0 (by omega), b0, bb, c0, by omega⟩
  · have e1 : 0 ≤ pmix1 b (c + 1) ∧ pmix1 b (c + 1) < 162259276829213363391578010288127 := ⟨Int.fmod_nonneg_of_pos _ (by decide), Int.fmod_lt_of_pos _ (by decide)⟩
    refine ⟨_, _, e_pdraw1 a b c many (decide_eq_false ha) (by simp; omega) ?_ ?_ (by simp) ?_ ?_ (by simp) (by decide +kernel) rfl rfl, ?_⟩
    · exact okMul_of (i := 15488257) (j := c + 1) (a := 30) (b := 70) (by decide) (by omega) (by decide) (by decide) (by decide)
    · exact okPow3 (n := 200) (by omega) (by decide) (by decide)
    · exact okMul_of (i := 32453651) (j := c + 1) (a := 30) (b := 70) (by decide) (by omega) (by decide) (by decide) (by decide)
    · exact okPow5 (n := 200) (by omega) (by decide) (by decide)
    · rw [Int.fmod_eq_emod_of_nonneg _ (by omega)]
      exact ⟨Int.emod_nonneg _ (by omega), Int.emod_lt_of_pos _ h0, a, b, c + 1, rfl, a0, b0, bb, by omega, by omega⟩
theorem e_pool0 (l : List PV) (t w : Int) (at_ : Int) (k1 : okPow 10 18 = true) (z1 : ((2305843009213693951 : Int) = 0) = False) (k2 : okMul 3367900313 (at_ + 1) = true) (c : Bool) (hc : decide (at_ < (l.length : Int)) = c) (hx : c = true → atI l at_ = some (.int t)) (hw : w = if c = true then t else 0) :
    m__law_pool [.val (.scr l), .val (.int at_)] [] = .own (.lst [.int (if (if w < 0 then -w else w) - 10 ^ Int.toNat 18 > 0 then (if w < 0 then -w else w) - 10 ^ Int.toNat 18 else 0), .int (w.fmod 2305843009213693951 + 3367900313 * (at_ + 1)), .int 0]) [] := by
  unfold m__law_pool g__law_pool
  cases c
  · simp only [Bool.false_eq_true, if_false] at hw
    subst hw
    clear hx
    iterate 6 (walk_at "ev"; try walk_at "evs")
  · simp only [if_true] at hw
    subst hw
    have hx := hx rfl
    iterate 6 (walk_at "ev"; try walk_at "evs")
theorem e_pool (ns : List Int) (i : Nat) (hi : i ≤ 1000000) : ∃ m, m__law_pool [.val (scrOf ns), .val (.int i)] [] = .own m [] ∧ Pool 0 m := by
  have hm := Int.fmod_nonneg_of_pos
  refine ⟨_, e_pool0 (ns.map PV.int) (ns.getD i 0) _ i (by decide +kernel) (by simp) ?_ _ rfl (fun hc => ?_) rfl, _, _, _, rfl, ?_, ?_, ?_, by omega, by omega⟩
  · exact okMul_of (i := 3367900313) (j := (i : Int) + 1) (a := 40) (b := 70) (by decide) (by omega) (by decide) (by decide) (by decide)
  · have hl : i < ns.length := by simpa using of_decide_eq_true hc
    refine atI_at ?_
    rw [List.getElem?_map, List.getD_eq_getElem?_getD, List.getElem?_eq_getElem hl]
    rfl
  · split <;> omega
  · have := Int.fmod_nonneg_of_pos (if decide ((i : Int) < ((ns.map PV.int).length : Int)) = true then ns.getD i 0 else 0) (show (0 : Int) < 2305843009213693951 by decide)
    omega
  · have := Int.fmod_lt_of_pos (if decide ((i : Int) < ((ns.map PV.int).length : Int)) = true then ns.getD i 0 else 0) (show (0 : Int) < 2305843009213693951 by decide)
    omega
/-! ### checks -/
theorem e_check_wave (w : Int) (h : 1 ≤ w ∧ w ≤ 32) : m_check_wave [.val (.int w)] [] = .ok .non [] := by
  have h1 : decide (1 ≤ w) = true := decide_eq_true h.1
  have h2 : decide (w ≤ 32) = true := decide_eq_true h.2
  unfold m_check_wave g_check_wave
  iterate 3 (walk_at "ev"; try walk_at "evs")
theorem e_check_banks (w : Int) (h : 1 ≤ w ∧ w ≤ 4096) : m_check_banks [.val (.int w)] [] = .ok .non [] := by
  have h1 : decide (1 ≤ w) = true := decide_eq_true h.1
  have h2 : decide (w ≤ 4096) = true := decide_eq_true h.2
  unfold m_check_banks g_check_banks
  iterate 3 (walk_at "ev"; try walk_at "evs")
/-! ### spreads -/
theorem e_bezout0 (b : Int) (hb : 0 < b) (hb2 : b.natAbs < 2 ^ 4000) : m_bezout [.val (.int 0), .val (.int b)] [] = .ok (.tup [.int b, .int 0]) [] := by
  have hd : okDiv b = true := okDiv_of (by omega) (Nat.lt_of_lt_of_le hb2 (Nat.pow_le_pow_right (by decide) (by decide : 4000 ≤ 8000))) (by decide) (by decide)
  have m1 : okMul 0 b = true := okMul_of (a := 4000) (b := 4000) (by decide +kernel) hb2 (by decide) (by decide) (by decide)
  have m2 : okMul 0 0 = true := okMul_of (a := 4000) (b := 4000) (by decide +kernel) (by decide +kernel) (by decide) (by decide) (by decide)
  have k1 : whileN l_bezout_1a l_bezout_1b 2 ⟨[some (.val (.int 0)), some (.val (.int b)), some (.val (.int 0)), some (.val (.int b)), some (.val (.int 1)), some (.val (.int 0)), none], []⟩ =
      .nx ⟨[some (.val (.int 0)), some (.val (.int b)), some (.val (.int b)), some (.val (.int 0)), some (.val (.int 0)), some (.val (.int 1)), some (.val (.int 0))], []⟩ := by
    rw [whileN_succ]
    unfold l_bezout_1a l_bezout_1b
    walk_at "ev"
    simp only [beq_eq_false_iff_ne.mpr (show b ≠ 0 by omega), if_pos hd, Int.zero_fdiv]
    walk_at "ev"
    simp only [if_pos m1]
    walk_at "ev"
    simp only [if_pos m2]
    walk_at "ev"
    simp only [Int.zero_mul, Int.sub_zero]
    rw [whileN_succ]
    walk_at "ev"
    simp [whileN]
  unfold m_bezout
  rw [g_bezout_eq]
  walk_at "ev"
  rw [gWhile_eq k1 (by simp)]
  walk_at "ev"
  simp only [decide_eq_true (show (b : Int) ≥ 0 by omega)]
  walk_at "ev"
theorem e_gcd (a b : Int) (ha : 0 ≤ a) (hb : 0 < b) (ha2 : a.natAbs < 2 ^ 4000) (hb2 : b.natAbs < 2 ^ 4000) : ∃ x, m_bezout [.val (.int a), .val (.int b)] [] = .ok (.tup [.int (Int.gcd a b : Int), .int x]) [] := by
  by_cases h : a = 0
  · subst h
    refine ⟨0, ?_⟩
    rw [e_bezout0 b hb hb2]
    have : (Int.gcd 0 b : Int) = b := by simp; omega
    rw [this]
  · obtain ⟨g, x, q, q2, y, h1, h2, h3, h4, h5, h6, h7⟩ := e_bezout a b (by omega) hb ha2 hb2
    refine ⟨x, ?_⟩
    rw [h1, gcd_of h2 h5 h6 h7]
theorem e_different_banks (l b : Int) (hb : 0 < b) (hb2 : b.natAbs < 2 ^ 4000) : m_different_banks [.val (.int l), .val (.int b)] [] = .ok (.int (spread b l)) [] := by
  have h0 := Int.emod_nonneg l (show b ≠ 0 by omega)
  have h1 := Int.emod_lt_of_pos l hb
  obtain ⟨x, hx⟩ := e_gcd (l % b) b h0 hb (by omega) hb2
  rw [gcd_mod] at hx
  have hz : (b = 0) = False := by simp; omega
  have g := gcd_pos (l := l) hb
  have gl : (Int.gcd l b : Int) ≤ b := Int.le_of_dvd hb (Int.gcd_dvd_right ..)
  have hd : okDiv (Int.gcd l b : Int) = true := okDiv_of (b := 4000) (by omega) (Nat.lt_of_le_of_lt (m := b.natAbs) (by omega) hb2) (by decide) (by decide)
  have em : l.fmod b = l % b := Int.fmod_eq_emod_of_nonneg _ (by omega)
  have ed : b.fdiv (Int.gcd l b : Int) = spread b l := Int.fdiv_eq_ediv_of_nonneg _ (by omega)
  clear h0 h1 gl
  unfold m_different_banks g_different_banks
  iterate 4 (walk_at "ev"; try walk_at "evs")
end PM
/-! PWN: waves of lanes: the plain law. -/
namespace PN
def lastOf (l h s r : Int) : Int := firstOf l s r + s * (lanesOf l h s r - 1)
def wavesWith (l h s r W : Int) : Int := if lanesOf l h s r = 0 ∨ W ≤ s then lanesOf l h s r else lastOf l h s r / W - firstOf l s r / W + 1
/-- two numbers of one remainder, less than the step apart -/
theorem same_of {s x y : Int} (hs : 0 < s) (h : x % s = y % s) (h1 : x - y < s) (h2 : y - x < s) : x = y := by
  obtain ⟨k, hk⟩ := dvd_of_emod h
  have : k = 0 := by
    rcases Int.lt_trichotomy k 0 with z | z | z
    · have : s * k ≤ s * (-1) := Int.mul_le_mul_of_nonneg_left (by omega) (by omega)
      omega
    · exact z
    · have : s * 1 ≤ s * k := Int.mul_le_mul_of_nonneg_left (by omega) (by omega)
      omega
  subst this
  omega
theorem lanes_end {l h s r : Int} (hs : 0 < s) : h ≤ firstOf l s r + s * lanesOf l h s r := by
  have := lanes_lt (l := l) (h := h) (r := r) hs (lanes_nonneg l h s r)
  omega
theorem last_lt {l h s r : Int} (hs : 0 < s) (hm : 0 < lanesOf l h s r) : lastOf l h s r < h := by
  unfold lastOf
  exact (lanes_lt hs (by omega)).mp (by omega)
theorem add_mul_mod (a s k : Int) : (a + s * k) % s = a % s := by rw [Int.add_mul_emod_self_left]
theorem last_law {l h s r : Int} (hs : 0 < s) (h0 : 0 ≤ r) (h1 : r < s) :
    (lanesOf l h s r = 0 → h - 1 - (h - 1 - r) % s < firstOf l s r) ∧ (0 < lanesOf l h s r → h - 1 - (h - 1 - r) % s = lastOf l h s r ∧ firstOf l s r ≤ lastOf l h s r) := by
  have e0 := Int.emod_nonneg (h - 1 - r) (show s ≠ 0 by omega)
  have e1 := Int.emod_lt_of_pos (h - 1 - r) hs
  constructor
  · intro z
    have := lanes_end (l := l) (h := h) (r := r) hs
    rw [z, Int.mul_zero] at this
    omega
  · intro z
    have a := last_lt hs z
    have b := lanes_end (l := l) (h := h) (r := r) hs
    have fm := first_mod (l := l) hs h0 h1
    have em : (h - 1 - (h - 1 - r) % s) % s = lastOf l h s r % s := by
      unfold lastOf
      rw [add_mul_mod, fm, Int.emod_def (h - 1 - r) s, show h - 1 - (h - 1 - r - s * ((h - 1 - r) / s)) = r + s * ((h - 1 - r) / s) by omega, add_mul_mod]
      exact Int.emod_eq_of_lt h0 h1
    have c : lastOf l h s r = firstOf l s r + s * lanesOf l h s r - s := by unfold lastOf; rw [Int.mul_sub]; omega
    refine ⟨same_of hs em (by omega) (by omega), ?_⟩
    unfold lastOf
    have : 0 ≤ s * (lanesOf l h s r - 1) := Int.mul_nonneg (by omega) (by omega)
    omega
theorem lanes_split' {l m h s r : Int} (hs : 0 < s) (h0 : 0 ≤ r) (h1 : r < s) (a : l ≤ m) (b : m ≤ h) : lanesOf l m s r + lanesOf m h s r = lanesOf l h s r := by
  rw [← listed_len (l := l) (h := m) hs h0 h1, ← listed_len (l := m) (h := h) hs h0 h1, ← listed_len (l := l) (h := h) hs h0 h1]
  have e : listed l h s r = listed l m s r ++ listed m h s r := by
    refine asc_ext (listed_asc ..) ?_ fun x => ?_
    · refine List.pairwise_append.mpr ⟨listed_asc .., listed_asc .., fun x hx y hy => ?_⟩
      rw [mem_listed] at hx hy
      omega
    · rw [List.mem_append, mem_listed, mem_listed, mem_listed]
      omega
  rw [e, List.length_append]
  push_cast
  rfl
end PN
/-! PW: kernels made, and what waves.py answers. -/
namespace PM
open PySem PySem.Spec PyProof.Rows L2 PL PN
local macro_rules | `(tactic| walk_at "ev") => `(tactic| try simp only [mOf, endF, start0, gSeq, gNop, gAsg, gRet, gRetO, gAsgO, gDrop, gIf, gOpt, gPar, gPar3, gAug, aName, asNil, asCons, aTup, aLst, setV, setO, eVar, eC, eBin, eUn, eTup, aNil, aCons, oLst, frz, eCall, oCall, avN, avK, permL, lNil, lPv, lSl, tOf, tTru, tNt, tAn, tOrr, eIf, eAn, eOr, eNt, eChain, eCallB, eIxM, gSetIx, getM, pTru, pAdd, pSub, pMul, pFdiv, pMod, pPow, pNeg, pLt, pLe, pGt, pGe, pIs, pIsNot, pAddI, pIx, pLen, pAbs, pMax2, pMin2, Res.bind_ok, Res.bind_ex, Res.bind_stuck, Res.fl_ok, Res.fl_ex, Res.fl_stuck, Res.opt_some, Res.opt_none, lowerA, PL.keyOf, getK, getAll, setAll, setK, distinct, List.map_cons, List.map_nil, List.length_cons, List.length_nil, List.replicate, List.cons_append, List.nil_append, List.append_nil, List.getElem?_cons_zero, List.getElem?_cons_succ, List.getElem?_nil, List.set_cons_zero, List.set_cons_succ, List.filterMap_cons, List.filterMap_nil, Option.bind_some, Option.map_some, Option.elim_some, if_true, if_false, Nat.reduceAdd, Nat.reduceSub, Nat.reduceEqDiff, Nat.reduceLeDiff, ↓reduceIte, Bool.false_eq_true, at0, at1, at2, at3, pEq, pNe, eqB_int, Option.some.injEq, decide_true, decide_false, not_true_eq_false, not_false_eq_true, Bool.and_true, ne_eq, reduceCtorEq, Bool.true_eq_false, Bool.not_true, Bool.not_false, frz, noEx, wipeS, wipeR, backS, backR, keepV, oComp, gFor, iAny, iRange1, iRange2, iRange3, iRangeW1, iRangeW2, eCallQ, oRgW2, oRgW, iEnumQ, eDct, iTxt, eFld, eMake, gSetFld, eFldM, eTupV, putP, eLenSet, gFrz, Nat.reduceLT, oRg2, oRg1, oRg, tYesD, pIn, pNotIn, eSl, pNo, pSo, forL_nil, gApp, gParO, List.not_mem_nil, List.not_mem_nil])
local macro_rules | `(tactic| walk_at "evs") => `(tactic| simp only [*, mOf, endF, start0, gSeq, gNop, gAsg, gRet, gRetO, gAsgO, gDrop, gIf, gOpt, gPar, gPar3, gAug, aName, asNil, asCons, aTup, aLst, setV, setO, eVar, eC, eBin, eUn, eTup, aNil, aCons, oLst, frz, eCall, oCall, avN, avK, permL, lNil, lPv, lSl, tOf, tTru, tNt, tAn, tOrr, eIf, eAn, eOr, eNt, eChain, eCallB, eIxM, gSetIx, getM, pTru, pAdd, pSub, pMul, pFdiv, pMod, pPow, pNeg, pLt, pLe, pGt, pGe, pIs, pIsNot, pAddI, pIx, pLen, pAbs, pMax2, pMin2, Res.bind_ok, Res.bind_ex, Res.bind_stuck, Res.fl_ok, Res.fl_ex, Res.fl_stuck, Res.opt_some, Res.opt_none, lowerA, PL.keyOf, getK, getAll, setAll, setK, distinct, List.map_cons, List.map_nil, List.length_cons, List.length_nil, List.replicate, List.cons_append, List.nil_append, List.append_nil, List.getElem?_cons_zero, List.getElem?_cons_succ, List.getElem?_nil, List.set_cons_zero, List.set_cons_succ, List.filterMap_cons, List.filterMap_nil, Option.bind_some, Option.map_some, Option.elim_some, if_true, if_false, Nat.reduceAdd, Nat.reduceSub, Nat.reduceEqDiff, Nat.reduceLeDiff, ↓reduceIte, Bool.false_eq_true, at0, at1, at2, at3, pEq, pNe, eqB_int, Option.some.injEq, decide_true, decide_false, not_true_eq_false, not_false_eq_true, Bool.and_true, ne_eq, reduceCtorEq, Bool.true_eq_false, Bool.not_true, Bool.not_false, frz, noEx, wipeS, wipeR, backS, backR, keepV, oComp, gFor, iAny, iRange1, iRange2, iRange3, iRangeW1, iRangeW2, eCallQ, oRgW2, oRgW, iEnumQ, eDct, iTxt, eFld, eMake, gSetFld, eFldM, eTupV, putP, eLenSet, gFrz, Nat.reduceLT, oRg2, oRg1, oRg, tYesD, pIn, pNotIn, eSl, pNo, pSo, forL_nil, gApp, gParO, List.not_mem_nil, List.not_mem_nil, eq_self, not_true_eq_false, not_false_eq_true, ix30, ix31, ix32, Bool.and_self, and_self, and_true, true_and])
noncomputable def l_Kernel___init___1b : PV → Stt → Option Stt := (aTup 2 (asCons (aName 4) (asCons (aName 5) asNil)))
noncomputable def l_Kernel___init___1c_s1 : Stt → Fl := (gIf (tNt (tTru (eCall PM.m_is_statement (avN 2 (lPv (eVar 5) (lPv (eVar 1) lNil)))))) (gSeq (fun _ => Fl.stuck) gNop) gNop)
noncomputable def l_Kernel___init___1c : Stt → Fl := (gSeq l_Kernel___init___1c_s1 gNop)
noncomputable def q_Kernel___init___1 : Stt → Fl := (gIf (tOf (eBin pLt (eVar 1) (eC (.int 1)))) (gSeq (fun _ => Fl.stuck) gNop) gNop)
noncomputable def q_Kernel___init___2 : Stt → Fl := (gFor (iEnumQ (aCons (eVar 2) aNil)) l_Kernel___init___1b l_Kernel___init___1c)
noncomputable def q_Kernel___init___3 : Stt → Fl := (gDrop (eCall PM.m_check_barriers (avN 2 (lPv (eVar 3) (lPv (eCallB pLen (aCons (eVar 2) aNil)) lNil)))))
noncomputable def q_Kernel___init___4 : Stt → Fl := (gSetFld 0 "Kernel" "lane_count" (eVar 1))
noncomputable def q_Kernel___init___5 : Stt → Fl := (gSetFld 0 "Kernel" "kept_statements" (eTupV (eVar 2)))
noncomputable def q_Kernel___init___6 : Stt → Fl := (gSetFld 0 "Kernel" "kept_barriers" (eTupV (eVar 3)))
theorem g_Kernel___init___eq : g_Kernel___init__ = (gSeq q_Kernel___init___1 (gSeq q_Kernel___init___2 (gSeq q_Kernel___init___3 (gSeq q_Kernel___init___4 (gSeq q_Kernel___init___5 (gSeq q_Kernel___init___6 gNop)))))) := rfl
noncomputable def l_is_statement_1c : PV → Stt → Option Stt := (aName 2)
noncomputable def l_is_statement_1d : Stt → Res Bool := tYesD
noncomputable def l_is_statement_1e : Stt → Res PV := (eCall PM.m_is_array (avN 1 (lPv (eBin pIx (eVar 0) (eVar 2)) lNil)))
noncomputable def q_is_statement_1 : Stt → Fl := (gIf (tOf (eBin pNe (eDct [("put" , .int 7) , ("move" , .int 9) , ("sum" , .int 11)] (eBin pIx (eVar 0) (eC (.int 0)))) (eCallB pLen (aCons (eVar 0) aNil)))) (gSeq (gRet (eC (.bl false))) gNop) gNop)
noncomputable def q_is_statement_2 : Stt → Fl := (gIf (tNt (tTru (eCallB pAll (aCons (frz (oComp [2] (iAny (eDct [("put" , .tup [.int 2]) , ("move" , .tup [.int 2, .int 5]) , ("sum" , .tup [.int 2, .int 5, .int 8])] (eBin pIx (eVar 0) (eC (.int 0))))) l_is_statement_1c l_is_statement_1d l_is_statement_1e)) aNil)))) (gSeq (gRet (eC (.bl false))) gNop) gNop)
noncomputable def q_is_statement_3 : Stt → Fl := (gRet (eAn (eCall PM.m_is_guard (avN 1 (lPv (eBin pIx (eVar 0) (eC (.int 1))) lNil))) (eBin pLe (eBin pIx (eBin pIx (eVar 0) (eC (.int 1))) (eC (.int 1))) (eVar 1))))
theorem g_is_statement_eq : g_is_statement = (gSeq q_is_statement_1 (gSeq q_is_statement_2 (gSeq q_is_statement_3 gNop))) := rfl
noncomputable def l_is_array_1c : PV → Stt → Option Stt := (aName 1)
noncomputable def l_is_array_1d : Stt → Res Bool := tYesD
noncomputable def l_is_array_1e : Stt → Res PV := (eBin pInSg (eVar 1) (eC (.str "abcdefghijklmnopqrstuvwxyz")))
noncomputable def q_is_array_1 : Stt → Fl := (gRet (eAn (eChain pLe pLe (eC (.int 1)) (eCallB pLen (aCons (eVar 0) aNil)) (eC (.int 8))) (eCallB pAll (aCons (frz (oComp [1] (iTxt (eVar 0)) l_is_array_1c l_is_array_1d l_is_array_1e)) aNil))))
theorem g_is_array_eq : g_is_array = (gSeq q_is_array_1 gNop) := rfl
noncomputable def l_check_barriers_1b : PV → Stt → Option Stt := (aTup 2 (asCons (aName 3) (asCons (aName 4) asNil)))
noncomputable def l_check_barriers_1c_s1 : Stt → Fl := (gIf (tNt (tOf (eChain pLt pLt (eVar 2) (eVar 4) (eVar 1)))) (gSeq (fun _ => Fl.stuck) gNop) gNop)
noncomputable def l_check_barriers_1c_s2 : Stt → Fl := (gAsg (eVar 4) (aName 2))
noncomputable def l_check_barriers_1c : Stt → Fl := (gSeq l_check_barriers_1c_s1 (gSeq l_check_barriers_1c_s2 gNop))
noncomputable def q_check_barriers_1 : Stt → Fl := (gAsg (eC (.int 0)) (aName 2))
noncomputable def q_check_barriers_2 : Stt → Fl := (gFor (iEnumQ (aCons (eVar 0) aNil)) l_check_barriers_1b l_check_barriers_1c)
theorem g_check_barriers_eq : g_check_barriers = (gSeq q_check_barriers_1 (gSeq q_check_barriers_2 gNop)) := rfl
abbrev letters : Str := "abcdefghijklmnopqrstuvwxyz"
/-- a name of an array -/
structure ArrN (z : Str) : Prop where
  l0 : 1 ≤ z.length
  l1 : z.length ≤ 8
  sg : ∀ c ∈ z.cps.toList, c ∈ letters.cps.toList
theorem all_true : ∀ l : List PV, allBl (l.map fun _ => PV.bl true) = some (l.map fun _ => true)
  | [] => rfl
  | p :: r => by simp only [List.map_cons, allBl, all_true r, Option.map_some]
theorem pAll_true (l : List PV) : pAll [.lst (l.map fun _ => PV.bl true)] = some (.bl true) := by
  unfold pAll
  simp only [all_true, Option.map_some]
  congr 2
  rw [List.all_eq_true]
  intro b hb
  obtain ⟨p, _, rfl⟩ := List.mem_map.mp hb
  rfl
theorem e_is_array {z : Str} (h : ArrN z) : m_is_array [.val (.str z)] [] = .ok (.bl true) [] := by
  have hz : z.length = z.cps.size := rfl
  have l1 := h.l1
  have l0 := h.l0
  have e := compL_map (vs := [1]) (a := l_is_array_1c) (ft := l_is_array_1d) (fe := l_is_array_1e) (s := ⟨[some (.val (.str z)), none], []⟩)
    (fun _ => some (.bl true)) (PL.signs z) [] (by unfold PL.signs; simp; omega) (by
      intro p hp
      unfold PL.signs at hp
      obtain ⟨c, hc, rfl⟩ := List.mem_map.mp hp
      have hin := h.sg c hc
      refine ⟨_, rfl, .inl ⟨_, .bl true, ⟨[some (.val (.str z)), some (.val (.str ⟨#[c]⟩))], []⟩, rfl, ?_, rfl, rfl⟩⟩
      have k : pInSg (.str ⟨#[c]⟩) (.str letters) = some (.bl true) := by
        show some (PV.bl (decide (c ∈ letters.cps.toList))) = _
        rw [decide_eq_true hin]
      clear hp hc hin h l0 l1 hz
      unfold l_is_array_1e
      iterate 3 (walk_at "ev"; try walk_at "evs"))
  have ef : (PL.signs z).filterMap (fun _ => some (PV.bl true)) = (PL.signs z).map fun _ => PV.bl true := filterMap_some' (fun _ => PV.bl true) (PL.signs z)
  rw [ef, List.nil_append] at e
  have k1 : decide (1 ≤ (z.length : Int)) = true := decide_eq_true (by omega)
  have k2 : decide ((z.length : Int) ≤ 8) = true := decide_eq_true (by omega)
  have k3 : (z.length ≤ 16777216) = True := eq_true (by omega)
  have k4 := pAll_true (PL.signs z)
  clear h l0 l1 hz ef
  unfold m_is_array
  rw [g_is_array_eq]
  unfold q_is_array_1
  generalize (PL.signs z).map (fun _ => PV.bl true) = S at *
  iterate 4 (walk_at "ev"; try walk_at "evs")
theorem arr_x : ArrN "x" := ⟨by decide, by decide, by decide +kernel⟩
abbrev kern (n : Int) (sts bars : List PV) : PV := .ins "Kernel" [("lane_count", .int n), ("kept_statements", .tup sts), ("kept_barriers", .tup bars)]
theorem e_no_barriers (k : Int) : m_check_barriers [.val (.tup []), .val (.int k)] [] = .ok .non [] := by
  unfold m_check_barriers
  rw [g_check_barriers_eq]
  unfold q_check_barriers_1 q_check_barriers_2
  have h0 : enumP [] = [] := rfl
  iterate 4 (walk_at "ev"; try walk_at "evs")
/-- a kernel without barriers is made -/
theorem e_kernel (n : Int) (hn : 1 ≤ n) (sts : List PV) (hs : ∀ p ∈ sts, m_is_statement [.val p, .val (.int n)] [] = .ok (.bl true) []) :
    m_Kernel___init__ [.bor 0, .val (.int n), .val (.lst sts), .val (.tup [])] [.ins "Kernel" []] = .ok .non [.ins "Kernel" [("lane_count", .int n), ("kept_statements", .tup sts), ("kept_barriers", .tup [])]] := by
  obtain ⟨s2, e2, x, y, rfl⟩ := forL_all (a := l_Kernel___init___1b) (b := l_Kernel___init___1c) (fun s => ∃ x y : Option SV, s = ⟨[some (.bor 0), some (.val (.int n)), some (.val (.lst sts)), some (.val (.tup [])), x, y], [.ins "Kernel" []]⟩) (l := enumP sts) (s := ⟨[some (.bor 0), some (.val (.int n)), some (.val (.lst sts)), some (.val (.tup [])), none, none], [.ins "Kernel" []]⟩) ⟨none, none, rfl⟩ (by
    rintro p s hp ⟨x, y, rfl⟩
    obtain ⟨i, q, hq, rfl⟩ : ∃ (i : Int) (q : PV), q ∈ sts ∧ p = .tup [.int i, q] := by
      obtain ⟨i, hi⟩ := List.mem_iff_getElem?.mp hp
      have hl : i < sts.length := by
        have := (List.getElem?_eq_some_iff.mp hi).1
        rwa [enumP_len] at this
      refine ⟨i, sts[i], List.getElem_mem hl, ?_⟩
      unfold enumP zipP at hi
      rw [List.getElem?_zipWith] at hi
      simp [hl] at hi
      exact hi.symm
    have c := hs q hq
    refine ⟨⟨[some (.bor 0), some (.val (.int n)), some (.val (.lst sts)), some (.val (.tup [])), some (.val (.int i)), some (.val q)], [.ins "Kernel" []]⟩, ?_, ⟨[some (.bor 0), some (.val (.int n)), some (.val (.lst sts)), some (.val (.tup [])), some (.val (.int i)), some (.val q)], [.ins "Kernel" []]⟩, .inl ?_, _, _, rfl⟩
    · clear hs hp hq c hn
      unfold l_Kernel___init___1b
      iterate 3 (walk_at "ev"; try walk_at "evs")
    · clear hs hp hq hn
      unfold l_Kernel___init___1c l_Kernel___init___1c_s1
      iterate 3 (walk_at "ev"; try walk_at "evs"))
  have k1 : decide (n < 1) = false := decide_eq_false (by omega)
  have t1 : q_Kernel___init___1 ⟨[some (.bor 0), some (.val (.int n)), some (.val (.lst sts)), some (.val (.tup [])), none, none], [.ins "Kernel" []]⟩ = .nx ⟨[some (.bor 0), some (.val (.int n)), some (.val (.lst sts)), some (.val (.tup [])), none, none], [.ins "Kernel" []]⟩ := by
    clear e2 hs hn
    unfold q_Kernel___init___1
    iterate 3 (walk_at "ev"; try walk_at "evs")
  have t2 : q_Kernel___init___2 ⟨[some (.bor 0), some (.val (.int n)), some (.val (.lst sts)), some (.val (.tup [])), none, none], [.ins "Kernel" []]⟩ = .nx ⟨[some (.bor 0), some (.val (.int n)), some (.val (.lst sts)), some (.val (.tup [])), x, y], [.ins "Kernel" []]⟩ := by
    clear hs hn k1 t1
    unfold q_Kernel___init___2
    iterate 3 (walk_at "ev"; try walk_at "evs")
  have t3 : q_Kernel___init___3 ⟨[some (.bor 0), some (.val (.int n)), some (.val (.lst sts)), some (.val (.tup [])), x, y], [.ins "Kernel" []]⟩ = .nx ⟨[some (.bor 0), some (.val (.int n)), some (.val (.lst sts)), some (.val (.tup [])), x, y], [.ins "Kernel" []]⟩ := by
    have c := e_no_barriers (sts.length : Nat)
    clear hs hn k1 t1 t2 e2
    unfold q_Kernel___init___3
    iterate 3 (walk_at "ev"; try walk_at "evs")
  have t4 : q_Kernel___init___4 ⟨[some (.bor 0), some (.val (.int n)), some (.val (.lst sts)), some (.val (.tup [])), x, y], [.ins "Kernel" []]⟩ = .nx ⟨[some (.bor 0), some (.val (.int n)), some (.val (.lst sts)), some (.val (.tup [])), x, y], [.ins "Kernel" [("lane_count", .int n)]]⟩ := rfl
  have t5 : q_Kernel___init___5 ⟨[some (.bor 0), some (.val (.int n)), some (.val (.lst sts)), some (.val (.tup [])), x, y], [.ins "Kernel" [("lane_count", .int n)]]⟩ = .nx ⟨[some (.bor 0), some (.val (.int n)), some (.val (.lst sts)), some (.val (.tup [])), x, y], [.ins "Kernel" [("lane_count", .int n), ("kept_statements", .tup sts)]]⟩ := rfl
  have t6 : q_Kernel___init___6 ⟨[some (.bor 0), some (.val (.int n)), some (.val (.lst sts)), some (.val (.tup [])), x, y], [.ins "Kernel" [("lane_count", .int n), ("kept_statements", .tup sts)]]⟩ = .nx ⟨[some (.bor 0), some (.val (.int n)), some (.val (.lst sts)), some (.val (.tup [])), x, y], [.ins "Kernel" [("lane_count", .int n), ("kept_statements", .tup sts), ("kept_barriers", .tup [])]]⟩ := rfl
  unfold m_Kernel___init__
  rw [g_Kernel___init___eq]
  simp only [mOf, start0, List.map_cons, List.map_nil, List.length_cons, List.length_nil, Nat.reduceAdd, Nat.reduceSub, List.replicate, List.cons_append, List.nil_append]
  rw [seq_nx t1, seq_nx t2, seq_nx t3, seq_nx t4, seq_nx t5, seq_nx t6]
  rfl
end PM
/-! PW2: what waves.py answers of a kernel. -/
namespace PM
open PySem PySem.Spec PyProof.Rows L2 PL PN
local macro_rules | `(tactic| walk_at "ev") => `(tactic| try simp only [mOf, endF, start0, gSeq, gNop, gAsg, gRet, gRetO, gAsgO, gDrop, gIf, gOpt, gPar, gPar3, gAug, aName, asNil, asCons, aTup, aLst, setV, setO, eVar, eC, eBin, eUn, eTup, aNil, aCons, oLst, frz, eCall, oCall, avN, avK, permL, lNil, lPv, lSl, tOf, tTru, tNt, tAn, tOrr, eIf, eAn, eOr, eNt, eChain, eCallB, eIxM, gSetIx, getM, pTru, pAdd, pSub, pMul, pFdiv, pMod, pPow, pNeg, pLt, pLe, pGt, pGe, pIs, pIsNot, pAddI, pIx, pLen, pAbs, pMax2, pMin2, Res.bind_ok, Res.bind_ex, Res.bind_stuck, Res.fl_ok, Res.fl_ex, Res.fl_stuck, Res.opt_some, Res.opt_none, lowerA, PL.keyOf, getK, getAll, setAll, setK, distinct, List.map_cons, List.map_nil, List.length_cons, List.length_nil, List.replicate, List.cons_append, List.nil_append, List.append_nil, List.getElem?_cons_zero, List.getElem?_cons_succ, List.getElem?_nil, List.set_cons_zero, List.set_cons_succ, List.filterMap_cons, List.filterMap_nil, Option.bind_some, Option.map_some, Option.elim_some, if_true, if_false, Nat.reduceAdd, Nat.reduceSub, Nat.reduceEqDiff, Nat.reduceLeDiff, ↓reduceIte, Bool.false_eq_true, at0, at1, at2, at3, pEq, pNe, eqB_int, Option.some.injEq, decide_true, decide_false, not_true_eq_false, not_false_eq_true, Bool.and_true, ne_eq, reduceCtorEq, Bool.true_eq_false, Bool.not_true, Bool.not_false, frz, noEx, wipeS, wipeR, backS, backR, keepV, oComp, gFor, iAny, iRange1, iRange2, iRange3, iRangeW1, iRangeW2, eCallQ, oRgW2, oRgW, pInt1, iEnumQ, eDct, iTxt, eFld, eMake, gSetFld, eFldM, eTupV, putP, eLenSet, gFrz, Nat.reduceLT, oRg2, oRg1, oRg, tYesD, pIn, pNotIn, eSl, pNo, pSo, forL_nil, gApp, gParO, List.not_mem_nil, List.not_mem_nil])
local macro_rules | `(tactic| walk_at "evs") => `(tactic| simp only [*, mOf, endF, start0, gSeq, gNop, gAsg, gRet, gRetO, gAsgO, gDrop, gIf, gOpt, gPar, gPar3, gAug, aName, asNil, asCons, aTup, aLst, setV, setO, eVar, eC, eBin, eUn, eTup, aNil, aCons, oLst, frz, eCall, oCall, avN, avK, permL, lNil, lPv, lSl, tOf, tTru, tNt, tAn, tOrr, eIf, eAn, eOr, eNt, eChain, eCallB, eIxM, gSetIx, getM, pTru, pAdd, pSub, pMul, pFdiv, pMod, pPow, pNeg, pLt, pLe, pGt, pGe, pIs, pIsNot, pAddI, pIx, pLen, pAbs, pMax2, pMin2, Res.bind_ok, Res.bind_ex, Res.bind_stuck, Res.fl_ok, Res.fl_ex, Res.fl_stuck, Res.opt_some, Res.opt_none, lowerA, PL.keyOf, getK, getAll, setAll, setK, distinct, List.map_cons, List.map_nil, List.length_cons, List.length_nil, List.replicate, List.cons_append, List.nil_append, List.append_nil, List.getElem?_cons_zero, List.getElem?_cons_succ, List.getElem?_nil, List.set_cons_zero, List.set_cons_succ, List.filterMap_cons, List.filterMap_nil, Option.bind_some, Option.map_some, Option.elim_some, if_true, if_false, Nat.reduceAdd, Nat.reduceSub, Nat.reduceEqDiff, Nat.reduceLeDiff, ↓reduceIte, Bool.false_eq_true, at0, at1, at2, at3, pEq, pNe, eqB_int, Option.some.injEq, decide_true, decide_false, not_true_eq_false, not_false_eq_true, Bool.and_true, ne_eq, reduceCtorEq, Bool.true_eq_false, Bool.not_true, Bool.not_false, frz, noEx, wipeS, wipeR, backS, backR, keepV, oComp, gFor, iAny, iRange1, iRange2, iRange3, iRangeW1, iRangeW2, eCallQ, oRgW2, oRgW, pInt1, iEnumQ, eDct, iTxt, eFld, eMake, gSetFld, eFldM, eTupV, putP, eLenSet, gFrz, Nat.reduceLT, oRg2, oRg1, oRg, tYesD, pIn, pNotIn, eSl, pNo, pSo, forL_nil, gApp, gParO, List.not_mem_nil, List.not_mem_nil, eq_self, not_true_eq_false, not_false_eq_true, ix30, ix31, ix32, Bool.and_self, and_self, and_true, true_and])
/-- a guard of numbers that are not too great -/
structure Gs (l h s r : Int) : Prop where
  l0 : 0 ≤ l
  lh : l ≤ h
  hb : h < 2 ^ 200
  r0 : 0 ≤ r
  r1 : r < s
  sb : s < 2 ^ 200
theorem Gs.s0 {l h s r : Int} (g : Gs l h s r) : 0 < s := by have := g.r0; have := g.r1; omega
theorem Gs.okd {l h s r : Int} (g : Gs l h s r) : okDiv s = true := okDiv_of (b := 4000) (by have := g.s0; omega) (by have := g.s0; have := g.sb; have : (2 : Int) ^ 200 < ((2 ^ 4000 : Nat) : Int) := (by decide +kernel); omega) (by decide) (by decide)
theorem lanes_le' {l h s r : Int} (hs : 0 < s) (a : l ≤ h) : lanesOf l h s r ≤ h - l := by
  have n := lanes_nonneg l h s r
  by_cases z : lanesOf l h s r = 0
  · omega
  · have := last_lt (l := l) (h := h) (r := r) hs (by omega)
    have f := first_ge (l := l) (r := r) hs
    unfold lastOf at this
    have : 1 * (lanesOf l h s r - 1) ≤ s * (lanesOf l h s r - 1) := Int.mul_le_mul_of_nonneg_right (by omega) (by omega)
    omega
theorem e_last {l h s r : Int} (g : Gs l h s r) : m_last_of [.val (gt l h s r)] [] = .ok (.int (lastOf l h s r)) [] := by
  have c1 := e_lanes_of l h s r g.s0 g.okd
  have n := lanes_nonneg l h s r
  have le := lanes_le' (l := l) (h := h) (r := r) g.s0 g.lh
  have b1 : (lanesOf l h s r - 1).natAbs < 2 ^ 300 := by
    have := g.hb; have := g.l0
    have : (2 : Int) ^ 200 + 10 < ((2 ^ 300 : Nat) : Int) := (by decide +kernel)
    omega
  have b2 : s.natAbs < 2 ^ 300 := by
    have := g.sb; have := g.s0
    have : (2 : Int) ^ 200 + 10 < ((2 ^ 300 : Nat) : Int) := (by decide +kernel)
    omega
  have c2 := e_lane_at l h s r (lanesOf l h s r - 1) g.s0 (okMul_of (a := 300) (b := 300) b2 b1 (by decide) (by decide) (by decide))
  rw [show firstOf l s r + s * (lanesOf l h s r - 1) = lastOf l h s r from rfl] at c2
  clear g n le b1 b2
  unfold m_last_of g_last_of
  iterate 4 (walk_at "ev"; try walk_at "evs")
theorem e_lonely (l h s r W : Int) : m_are_lonely [.val (gt l h s r), .val (.int W)] [] = .ok (.bl (decide (s ≥ W))) [] := by
  unfold m_are_lonely g_are_lonely
  iterate 4 (walk_at "ev"; try walk_at "evs")
theorem okDiv32 {W : Int} (h : 1 ≤ W ∧ W ≤ 32) : okDiv W = true := okDiv_of (b := 40) (by omega) (Nat.lt_of_le_of_lt (m := 32) (by omega) (by decide +kernel)) (by decide) (by decide)
theorem e_waves_with {l h s r W : Int} (g : Gs l h s r) (hW : 1 ≤ W ∧ W ≤ 32) : m_waves_with [.val (gt l h s r), .val (.int W)] [] = .ok (.int (wavesWith l h s r W)) [] := by
  have c1 := e_lanes_of l h s r g.s0 g.okd
  have c2 := e_lonely l h s r W
  have c3 := e_last g
  have c4 := e_first_of l h s r g.s0
  have k1 := okDiv32 hW
  have k2 : (lastOf l h s r).fdiv W = lastOf l h s r / W := Int.fdiv_eq_ediv_of_nonneg _ (by omega)
  have k3 : (firstOf l s r).fdiv W = firstOf l s r / W := Int.fdiv_eq_ediv_of_nonneg _ (by omega)
  unfold wavesWith
  by_cases z : lanesOf l h s r = 0
  · have k4 : (lanesOf l h s r == 0) = true := by simp [z]
    have k5 : (if lanesOf l h s r = 0 ∨ W ≤ s then lanesOf l h s r else lastOf l h s r / W - firstOf l s r / W + 1) = lanesOf l h s r := if_pos (.inl z)
    rw [k5]
    clear g hW z k5
    generalize lanesOf l h s r = L at *
    unfold m_waves_with g_waves_with
    iterate 4 (walk_at "ev"; try walk_at "evs")
  · have k4 : (lanesOf l h s r == 0) = false := by simp [z]
    by_cases w : W ≤ s
    · have k6 : decide (s ≥ W) = true := decide_eq_true w
      have k5 : (if lanesOf l h s r = 0 ∨ W ≤ s then lanesOf l h s r else lastOf l h s r / W - firstOf l s r / W + 1) = lanesOf l h s r := if_pos (.inr w)
      rw [k5]
      clear g hW z k5 w
      generalize lanesOf l h s r = L at *
      unfold m_waves_with g_waves_with
      iterate 4 (walk_at "ev"; try walk_at "evs")
    · have k6 : decide (s ≥ W) = false := decide_eq_false w
      have k5 : (if lanesOf l h s r = 0 ∨ W ≤ s then lanesOf l h s r else lastOf l h s r / W - firstOf l s r / W + 1) = lastOf l h s r / W - firstOf l s r / W + 1 := if_neg (by omega)
      rw [k5]
      clear g hW z k5 w
      generalize lanesOf l h s r = L at *
      unfold m_waves_with g_waves_with
      iterate 4 (walk_at "ev"; try walk_at "evs")
theorem e_in_wave {l h s r W j : Int} (hm : okMul W j = true) : m_in_wave [.val (gt l h s r), .val (.int W), .val (.int j)] [] = .ok (gt (max l (W * j)) (min h (W * j + W)) s r) [] := by
  have m1 : (if W * j > l then W * j else l) = max l (W * j) := by split <;> omega
  have m2 : (if W * j + W < h then W * j + W else h) = min h (W * j + W) := by split <;> omega
  unfold m_in_wave g_in_wave
  iterate 5 (walk_at "ev"; try walk_at "evs")
end PM
/-! PLN: lines that lanes touch, wave by wave: the plain law. -/
namespace PN
/-- how many runs a list has, R tells which neighbours are of one run -/
def runs (R : Int → Int → Bool) : List Int → Nat
  | [] => 0
  | [_] => 1
  | x :: y :: t => (if R x y = true then 0 else 1) + runs R (y :: t)
theorem runs_cons2 (R : Int → Int → Bool) (x y : Int) (t : List Int) : runs R (x :: y :: t) = (if R x y = true then 0 else 1) + runs R (y :: t) := rfl
theorem runs_len (R : Int → Int → Bool) : ∀ l, runs R l ≤ l.length
  | [] => Nat.le_refl _
  | [_] => Nat.le_refl _
  | x :: y :: t => by
    have := runs_len R (y :: t)
    rw [runs_cons2, List.length_cons]
    split <;> omega
theorem runs_le {R R' : Int → Int → Bool} : ∀ l : List Int, (∀ x ∈ l, ∀ y ∈ l, R x y = true → R' x y = true) → runs R' l ≤ runs R l
  | [], _ => Nat.le_refl _
  | [_], _ => Nat.le_refl _
  | x :: y :: t, h => by
    have ih := runs_le (y :: t) fun a ha b hb => h a (List.mem_cons_of_mem _ ha) b (List.mem_cons_of_mem _ hb)
    rw [runs_cons2, runs_cons2]
    have := h x List.mem_cons_self y (List.mem_cons_of_mem _ List.mem_cons_self)
    by_cases z : R x y = true
    · rw [if_pos z, if_pos (this z)]; omega
    · rw [if_neg z]; split <;> omega
theorem runs_congr {R R' : Int → Int → Bool} (l : List Int) (h : ∀ x ∈ l, ∀ y ∈ l, R x y = R' x y) : runs R l = runs R' l :=
  Nat.le_antisymm (runs_le l fun x hx y hy z => by rw [h x hx y hy]; exact z) (runs_le l fun x hx y hy z => by rw [← h x hx y hy]; exact z)
theorem runs_app {R : Int → Int → Bool} : ∀ a b : List Int, (∀ x ∈ a, ∀ y ∈ b, R x y = false) → runs R (a ++ b) = runs R a + runs R b
  | [], b, _ => by simp [runs]
  | [x], [], _ => rfl
  | [x], y :: t, h => by
    show runs R (x :: y :: t) = 1 + runs R (y :: t)
    rw [runs_cons2, h x List.mem_cons_self y List.mem_cons_self]
    rfl
  | x :: y :: t, b, h => by
    have ih := runs_app (y :: t) b fun a ha => h a (List.mem_cons_of_mem _ ha)
    show runs R (x :: y :: (t ++ b)) = _
    rw [runs_cons2, runs_cons2, show y :: (t ++ b) = (y :: t) ++ b from rfl, ih]
    omega
/-! ### lines -/
def cellL (a b z x : Int) : Int := (a * x + b) / z
def sameL (W a b z x y : Int) : Bool := decide (x / W = y / W) && decide (cellL a b z x = cellL a b z y)
/-- the lines of a guard's lanes, wave by wave -/
def linesOf (l h s r W a b z : Int) : Int := (runs (sameL W a b z) (listed l h s r) : Nat)
theorem sameL_iff {W a b z x y : Int} : sameL W a b z x y = true ↔ x / W = y / W ∧ cellL a b z x = cellL a b z y := by simp [sameL]
theorem sameL_not {W a b z x y : Int} : sameL W a b z x y = false ↔ ¬ (x / W = y / W ∧ cellL a b z x = cellL a b z y) := by rw [← sameL_iff]; simp
theorem wave_at {W x j : Int} (hW : 0 < W) : x / W = j ↔ W * j ≤ x ∧ x < W * j + W := by
  have e := Int.mul_ediv_add_emod x W
  have a := Int.emod_nonneg x (show W ≠ 0 by omega)
  have b := Int.emod_lt_of_pos x hW
  constructor
  · intro z; subst z; omega
  · rintro ⟨h1, h2⟩
    rw [show x = (x - W * j) + W * j by omega, Int.add_mul_ediv_left _ _ (by omega), Int.ediv_eq_zero_of_lt (by omega) (by omega)]
    omega
theorem listed_split {l m h s r : Int} (a : l ≤ m) (b : m ≤ h) : listed l h s r = listed l m s r ++ listed m h s r := by
  refine asc_ext (listed_asc ..) ?_ fun x => ?_
  · refine List.pairwise_append.mpr ⟨listed_asc .., listed_asc .., fun x hx y hy => ?_⟩
    rw [mem_listed] at hx hy
    omega
  · rw [List.mem_append, mem_listed, mem_listed, mem_listed]
    constructor
    · rintro ⟨h1, h2, h3⟩
      by_cases q : x < m
      · exact .inl ⟨h1, q, h3⟩
      · exact .inr ⟨by omega, h2, h3⟩
    · rintro (⟨h1, h2, h3⟩ | ⟨h1, h2, h3⟩)
      · exact ⟨h1, by omega, h3⟩
      · exact ⟨by omega, h2, h3⟩
theorem cut_waves {W c x y : Int} (hW : 0 < W) (hc : c % W = 0) (h1 : x < c) (h2 : c ≤ y) : x / W ≠ y / W := by
  intro e
  have ec := Int.mul_ediv_add_emod c W
  rw [hc] at ec
  have a : x / W < c / W := Int.ediv_lt_of_lt_mul hW (by rw [Int.mul_comm]; omega)
  have b : c / W ≤ y / W := Int.ediv_le_ediv hW h2
  omega
theorem lines_add {l c h s r W a b z : Int} (hW : 0 < W) (hc : c % W = 0) (h1 : l ≤ c) (h2 : c ≤ h) : linesOf l c s r W a b z + linesOf c h s r W a b z = linesOf l h s r W a b z := by
  unfold linesOf
  rw [listed_split h1 h2, runs_app]
  · omega
  · intro x hx y hy
    rw [mem_listed] at hx hy
    exact sameL_not.mpr fun q => cut_waves hW hc hx.2.1 hy.1 q.1
theorem lines_le {l h s r W a b z : Int} (hs : 0 < s) (h0 : 0 ≤ r) (h1 : r < s) : linesOf l h s r W a b z ≤ lanesOf l h s r := by
  have := runs_len (sameL W a b z) (listed l h s r)
  rw [← listed_len hs h0 h1]
  unfold linesOf
  omega
theorem step_of {s x y : Int} (hs : 0 < s) (h : x % s = y % s) (hxy : x < y) : s ≤ y - x := by
  obtain ⟨k, hk⟩ := dvd_of_emod h.symm
  have : 0 < k := by
    rcases Int.lt_or_le 0 k with z | z
    · exact z
    · have : s * k ≤ s * 0 := Int.mul_le_mul_of_nonneg_left z (by omega)
      omega
  have : s * 1 ≤ s * k := Int.mul_le_mul_of_nonneg_left (by omega) (by omega)
  omega
end PN
/-! PLN2: sums over waves, floors counted. -/
namespace PN
/-- g at a, a + 1, .., n of them -/
def sumI (g : Int → Int) (a : Int) : Nat → Int
  | 0 => 0
  | n + 1 => sumI g a n + g (a + (n : Int))
theorem sumI_add (g : Int → Int) (a : Int) (m : Nat) : ∀ n : Nat, sumI g a (m + n) = sumI g a m + sumI g (a + (m : Int)) n
  | 0 => by simp [sumI]
  | n + 1 => by
    show sumI g a (m + n) + g (a + ((m + n : Nat) : Int)) = _ + (sumI g (a + (m : Int)) n + g (a + (m : Int) + (n : Int)))
    rw [sumI_add g a m n, show a + ((m + n : Nat) : Int) = a + (m : Int) + (n : Int) by omega]
    omega
theorem sumI_head (g : Int → Int) (a : Int) (n : Nat) : sumI g a (n + 1) = g a + sumI g (a + 1) n := by
  rw [show n + 1 = 1 + n by omega, sumI_add]
  simp [sumI]
theorem sumI_congr {g f : Int → Int} {a : Int} : ∀ {n : Nat}, (∀ i : Nat, i < n → g (a + (i : Int)) = f (a + (i : Int))) → sumI g a n = sumI f a n
  | 0, _ => rfl
  | n + 1, h => by
    show sumI g a n + g (a + (n : Int)) = sumI f a n + f (a + (n : Int))
    rw [sumI_congr fun i hi => h i (by omega), h n (by omega)]
theorem sumI_zero {g : Int → Int} {a : Int} {n : Nat} (h : ∀ i : Nat, i < n → g (a + (i : Int)) = 0) : sumI g a n = 0 := by
  have : sumI g a n = sumI (fun _ => 0) a n := sumI_congr h
  rw [this]
  clear this h
  induction n with
  | zero => rfl
  | succ n ih => show sumI _ a n + 0 = 0; rw [ih]; rfl
theorem sumI_plus (g f : Int → Int) (a : Int) : ∀ n : Nat, sumI (fun i => g i + f i) a n = sumI g a n + sumI f a n
  | 0 => rfl
  | n + 1 => by
    show sumI _ a n + (g _ + f _) = sumI g a n + g _ + (sumI f a n + f _)
    rw [sumI_plus g f a n]; omega
theorem sumI_shift (g : Int → Int) (a d : Int) : ∀ n : Nat, sumI g (a + d) n = sumI (fun i => g (i + d)) a n
  | 0 => rfl
  | n + 1 => by
    show sumI g (a + d) n + g (a + d + (n : Int)) = sumI _ a n + g (a + (n : Int) + d)
    rw [sumI_shift g a d n, show a + d + (n : Int) = a + (n : Int) + d by omega]
/-- numbers by their remainders -/
theorem regroup (g : Int → Int) {p : Int} (hp : 0 < p) : ∀ (N : Nat) (A B : Int), (B - A).toNat ≤ N →
    sumI (fun v => sumI (fun i => g (v + p * i)) 0 ((B - 1 - v) / p + 1).toNat) A (min (A + p) B - A).toNat = sumI g A (B - A).toNat := by
  intro N
  induction N with
  | zero =>
    intro A B h
    rw [show (min (A + p) B - A).toNat = 0 by omega, show (B - A).toNat = 0 by omega]
    rfl
  | succ N ih =>
    intro A B h
    by_cases c : B ≤ A
    · rw [show (min (A + p) B - A).toNat = 0 by omega, show (B - A).toNat = 0 by omega]
      rfl
    · have e1 : sumI (fun v => sumI (fun i => g (v + p * i)) 0 ((B - 1 - v) / p + 1).toNat) A (min (A + p) B - A).toNat = sumI (fun v => g v + sumI (fun i => g (v + p + p * i)) 0 ((B - 1 - v) / p).toNat) A (min (A + p) B - A).toNat := by
        refine sumI_congr fun i hi => ?_
        have q : 0 ≤ (B - 1 - (A + (i : Int))) / p := Int.ediv_nonneg (by omega) (by omega)
        rw [show ((B - 1 - (A + (i : Int))) / p + 1).toNat = ((B - 1 - (A + (i : Int))) / p).toNat + 1 by omega, sumI_head, Int.mul_zero, Int.add_zero]
        congr 1
        rw [sumI_shift]
        refine sumI_congr fun k _ => ?_
        show g (A + (i : Int) + p * (0 + (k : Int) + 1)) = g (A + (i : Int) + p + p * (0 + (k : Int)))
        rw [Int.mul_add p (0 + (k : Int)) 1, Int.mul_one]
        congr 1
        omega
      rw [e1, sumI_plus]
      have j := ih (A + p) B (by omega)
      rw [sumI_shift] at j
      have e2 : ∀ m : Nat, sumI (fun i => (fun v => sumI (fun i => g (v + p * i)) 0 ((B - 1 - v) / p + 1).toNat) (i + p)) A m = sumI (fun v => sumI (fun i => g (v + p + p * i)) 0 ((B - 1 - v) / p).toNat) A m := fun m => by
        refine sumI_congr fun i hi => ?_
        show sumI (fun k => g (A + (i : Int) + p + p * k)) 0 ((B - 1 - (A + (i : Int) + p)) / p + 1).toNat = _
        rw [show B - 1 - (A + (i : Int) + p) = (B - 1 - (A + (i : Int))) + p * (-1) by omega, Int.add_mul_ediv_left _ _ (by omega)]
        rw [show (B - 1 - (A + (i : Int))) / p + -1 + 1 = (B - 1 - (A + (i : Int))) / p by omega]
      rw [e2] at j
      by_cases q : B ≤ A + p
      · have z : sumI (fun v => sumI (fun i => g (v + p + p * i)) 0 ((B - 1 - v) / p).toNat) A (min (A + p) B - A).toNat = 0 := sumI_zero fun i hi => by
          show sumI _ 0 ((B - 1 - (A + (i : Int))) / p).toNat = 0
          rw [Int.ediv_eq_zero_of_lt (by omega) (by omega)]
          rfl
        rw [z, show min (A + p) B = B by omega]
        omega
      · have s1 : (min (A + p) B - A).toNat = p.toNat := by omega
        have s2 : (min (A + p + p) B - (A + p)).toNat ≤ p.toNat := by omega
        rw [s1]
        obtain ⟨d, hd⟩ := Nat.exists_eq_add_of_le s2
        have s3 : sumI (fun v => sumI (fun i => g (v + p + p * i)) 0 ((B - 1 - v) / p).toNat) A p.toNat = sumI g (A + p) (B - (A + p)).toNat := by
          rw [hd, sumI_add, j]
          have z : sumI (fun v => sumI (fun i => g (v + p + p * i)) 0 ((B - 1 - v) / p).toNat) (A + ((min (A + p + p) B - (A + p)).toNat : Int)) d = 0 := sumI_zero fun i hi => by
            show sumI _ 0 ((B - 1 - (A + ((min (A + p + p) B - (A + p)).toNat : Int) + (i : Int))) / p).toNat = 0
            rw [Int.ediv_eq_zero_of_lt (by omega) (by omega)]
            rfl
          rw [z]; omega
        rw [s3, show (B - A).toNat = p.toNat + (B - (A + p)).toNat by omega, sumI_add, Int.toNat_of_nonneg (by omega)]
/-! ### floors counted -/
end PN
/-! PLN3: the lines of all waves, by the first and the last lane of each. -/
namespace PN
def sgn (a : Int) : Int := if 0 ≤ a then 1 else -1
theorem sgn_or (a : Int) : sgn a = 1 ∨ sgn a = -1 := by unfold sgn; split <;> simp
theorem cell_mono {a b z x y : Int} (hz : 0 < z) (h : x ≤ y) : 0 ≤ sgn a * (cellL a b z y - cellL a b z x) := by
  unfold cellL sgn
  by_cases p : 0 ≤ a
  · have m : a * x ≤ a * y := Int.mul_le_mul_of_nonneg_left h p
    have := Int.ediv_le_ediv hz (show a * x + b ≤ a * y + b by omega)
    rw [if_pos p]; omega
  · have m : -a * x ≤ -a * y := Int.mul_le_mul_of_nonneg_left h (by omega)
    rw [Int.neg_mul, Int.neg_mul] at m
    have := Int.ediv_le_ediv hz (show a * y + b ≤ a * x + b by omega)
    rw [if_neg p]; omega
def prog (x s : Int) : Nat → List Int
  | 0 => []
  | n + 1 => x :: prog (x + s) s n
theorem first_least {l s r x : Int} (hs : 0 < s) (h0 : 0 ≤ r) (h1 : r < s) (hx : l ≤ x) (hr : x % s = r) : firstOf l s r ≤ x := by
  obtain ⟨k, k0, k1, e⟩ := (lane_iff (l := l) (h := x + 1) hs h0 h1).mp ⟨hx, by omega, hr⟩
  have : 0 ≤ s * k := Int.mul_nonneg (by omega) k0
  omega
theorem lanes_pos {l h s r : Int} (hs : 0 < s) (c : firstOf l s r < h) : 0 < lanesOf l h s r := (lanes_lt hs (Int.le_refl 0)).mpr (by omega)
theorem last_mod {l h s r : Int} (hs : 0 < s) (h0 : 0 ≤ r) (h1 : r < s) : lastOf l h s r % s = r := by
  unfold lastOf
  rw [add_mul_mod, first_mod hs h0 h1]
theorem first_le_last {l h s r : Int} (hs : 0 < s) (hm : 0 < lanesOf l h s r) : firstOf l s r ≤ lastOf l h s r := by
  unfold lastOf
  have : 0 ≤ s * (lanesOf l h s r - 1) := Int.mul_nonneg (by omega) (by omega)
  omega
theorem lines_none {l h s r W a b z : Int} (hs : 0 < s) (h0 : 0 ≤ r) (h1 : r < s) (hm : lanesOf l h s r = 0) : linesOf l h s r W a b z = 0 := by
  have := lines_le (l := l) (h := h) (W := W) (a := a) (b := b) (z := z) hs h0 h1
  have : 0 ≤ linesOf l h s r W a b z := by unfold linesOf; omega
  omega
theorem lanes_none {a b s r : Int} (hs : 0 < s) (h : b ≤ firstOf a s r) : lanesOf a b s r = 0 := by
  have n := lanes_nonneg a b s r
  by_cases z : lanesOf a b s r = 0
  · exact z
  · have c := (lanes_lt (l := a) (h := b) (r := r) hs (Int.le_refl 0)).mp (by omega)
    omega
/-- how far apart the lines of the last and the first lane of a wave are -/
def DW (l h s r W a b z j : Int) : Int := cellL a b z (lastOf (max l (W * j)) (min h (W * j + W)) s r) - cellL a b z (firstOf (max l (W * j)) s r)
section
variable {l h s r W a b z : Int} (hs : 0 < s) (hW : 0 < W) (h0 : 0 ≤ r) (h1 : r < s) (sW : s < W) (hm : 0 < lanesOf l h s r)
include hs hW h0 h1 sW hm
theorem wave_has {j : Int} (a1 : firstOf l s r / W ≤ j) (a2 : j ≤ lastOf l h s r / W) : firstOf (max l (W * j)) s r < min h (W * j + W) := by
  have fl := first_le_last hs hm
  have lh := last_lt hs hm
  have f1 := first_ge (l := l) (r := r) hs
  have wf := (wave_at (x := firstOf l s r) hW).mp rfl
  have wl := (wave_at (x := lastOf l h s r) hW).mp rfl
  have fm := first_mod (l := l) hs h0 h1
  have lm := last_mod (l := l) (h := h) hs h0 h1
  by_cases c : j = firstOf l s r / W
  · subst c
    have := first_least (l := max l (W * (firstOf l s r / W))) hs h0 h1 (x := firstOf l s r) (by omega) fm
    omega
  · have c1 : W * (firstOf l s r / W) + W ≤ W * j := by
      have : W * (firstOf l s r / W + 1) ≤ W * j := Int.mul_le_mul_of_nonneg_left (by omega) (by omega)
      rw [Int.mul_add, Int.mul_one] at this; exact this
    rw [show max l (W * j) = W * j by omega]
    by_cases d : j = lastOf l h s r / W
    · subst d
      have := first_least (l := W * (lastOf l h s r / W)) hs h0 h1 (x := lastOf l h s r) (by omega) lm
      omega
    · have d1 : W * j + W ≤ W * (lastOf l h s r / W) := by
        have : W * (j + 1) ≤ W * (lastOf l h s r / W) := Int.mul_le_mul_of_nonneg_left (by omega) (by omega)
        rw [Int.mul_add, Int.mul_one] at this; exact this
      have := first_lt (l := W * j) (r := r) hs
      omega
variable (hz : 0 < z) (has : (a * s).natAbs < z)
include hz has
end
/-! ### waves that begin alike -/
theorem first_shift {l s r d : Int} (hd : d % s = 0) : firstOf (l + d) s r = firstOf l s r + d := by
  unfold firstOf
  have : (r - (l + d)) % s = (r - l) % s := by
    rw [show r - (l + d) = (r - l) - d by omega, Int.sub_emod, hd, Int.sub_zero, Int.emod_emod]
  rw [this]; omega
theorem lanes_shift {l h s r d : Int} (hd : d % s = 0) : lanesOf (l + d) (h + d) s r = lanesOf l h s r := by
  unfold lanesOf
  rw [first_shift hd]
  congr 2
  omega
section
variable {l h s r W a b z : Int} (hs : 0 < s) (hW : 0 < W) (h0 : 0 ≤ r) (h1 : r < s) (sW : s < W) (hm : 0 < lanesOf l h s r)
include hs hW h0 h1 sW hm
theorem inner {j : Int} (a1 : firstOf l s r / W < j) (a2 : j < lastOf l h s r / W) : max l (W * j) = W * j ∧ min h (W * j + W) = W * j + W := by
  have lh := last_lt hs hm
  have f1 := first_ge (l := l) (r := r) hs
  have wf := (wave_at (x := firstOf l s r) hW).mp rfl
  have wl := (wave_at (x := lastOf l h s r) hW).mp rfl
  have c1 : W * (firstOf l s r / W) + W ≤ W * j := by
    have : W * (firstOf l s r / W + 1) ≤ W * j := Int.mul_le_mul_of_nonneg_left (by omega) (by omega)
    rw [Int.mul_add, Int.mul_one] at this; exact this
  have d1 : W * j + W ≤ W * (lastOf l h s r / W) := by
    have : W * (j + 1) ≤ W * (lastOf l h s r / W) := Int.mul_le_mul_of_nonneg_left (by omega) (by omega)
    rw [Int.mul_add, Int.mul_one] at this; exact this
  constructor <;> omega
end
end PN
/-! PLW: what lines.py answers. -/
namespace PM
open PySem PySem.Spec PyProof.Rows L2 PL PN
local macro_rules | `(tactic| walk_at "ev") => `(tactic| try simp only [mOf, endF, start0, gSeq, gNop, gAsg, gRet, gRetO, gAsgO, gDrop, gIf, gOpt, gPar, gPar3, gAug, aName, asNil, asCons, aTup, aLst, setV, setO, eVar, eC, eBin, eUn, eTup, aNil, aCons, oLst, frz, eCall, oCall, avN, avK, permL, lNil, lPv, lSl, tOf, tTru, tNt, tAn, tOrr, eIf, eAn, eOr, eNt, eChain, eCallB, eIxM, gSetIx, getM, pTru, pAdd, pSub, pMul, pFdiv, pMod, pPow, pNeg, pLt, pLe, pGt, pGe, pIs, pIsNot, pAddI, pIx, pLen, pAbs, pMax2, pMin2, Res.bind_ok, Res.bind_ex, Res.bind_stuck, Res.fl_ok, Res.fl_ex, Res.fl_stuck, Res.opt_some, Res.opt_none, lowerA, PL.keyOf, getK, getAll, setAll, setK, distinct, List.map_cons, List.map_nil, List.length_cons, List.length_nil, List.replicate, List.cons_append, List.nil_append, List.append_nil, List.getElem?_cons_zero, List.getElem?_cons_succ, List.getElem?_nil, List.set_cons_zero, List.set_cons_succ, List.filterMap_cons, List.filterMap_nil, Option.bind_some, Option.map_some, Option.elim_some, if_true, if_false, Nat.reduceAdd, Nat.reduceSub, Nat.reduceEqDiff, Nat.reduceLeDiff, ↓reduceIte, Bool.false_eq_true, at0, at1, at2, at3, pEq, pNe, eqB_int, Option.some.injEq, decide_true, decide_false, not_true_eq_false, not_false_eq_true, Bool.and_true, ne_eq, reduceCtorEq, Bool.true_eq_false, Bool.not_true, Bool.not_false, frz, noEx, wipeS, wipeR, backS, backR, keepV, oComp, gFor, iAny, iRange1, iRange2, iRange3, iRangeW1, iRangeW2, eCallQ, oRgW2, oRgW, pInt1, iEnumQ, eDct, iTxt, eFld, eMake, gSetFld, eFldM, eTupV, putP, eLenSet, gFrz, Nat.reduceLT, oRg2, oRg1, oRg, tYesD, pIn, pNotIn, eSl, pNo, pSo, forL_nil, gApp, gParO, List.not_mem_nil, List.not_mem_nil])
local macro_rules | `(tactic| walk_at "evs") => `(tactic| simp only [*, mOf, endF, start0, gSeq, gNop, gAsg, gRet, gRetO, gAsgO, gDrop, gIf, gOpt, gPar, gPar3, gAug, aName, asNil, asCons, aTup, aLst, setV, setO, eVar, eC, eBin, eUn, eTup, aNil, aCons, oLst, frz, eCall, oCall, avN, avK, permL, lNil, lPv, lSl, tOf, tTru, tNt, tAn, tOrr, eIf, eAn, eOr, eNt, eChain, eCallB, eIxM, gSetIx, getM, pTru, pAdd, pSub, pMul, pFdiv, pMod, pPow, pNeg, pLt, pLe, pGt, pGe, pIs, pIsNot, pAddI, pIx, pLen, pAbs, pMax2, pMin2, Res.bind_ok, Res.bind_ex, Res.bind_stuck, Res.fl_ok, Res.fl_ex, Res.fl_stuck, Res.opt_some, Res.opt_none, lowerA, PL.keyOf, getK, getAll, setAll, setK, distinct, List.map_cons, List.map_nil, List.length_cons, List.length_nil, List.replicate, List.cons_append, List.nil_append, List.append_nil, List.getElem?_cons_zero, List.getElem?_cons_succ, List.getElem?_nil, List.set_cons_zero, List.set_cons_succ, List.filterMap_cons, List.filterMap_nil, Option.bind_some, Option.map_some, Option.elim_some, if_true, if_false, Nat.reduceAdd, Nat.reduceSub, Nat.reduceEqDiff, Nat.reduceLeDiff, ↓reduceIte, Bool.false_eq_true, at0, at1, at2, at3, pEq, pNe, eqB_int, Option.some.injEq, decide_true, decide_false, not_true_eq_false, not_false_eq_true, Bool.and_true, ne_eq, reduceCtorEq, Bool.true_eq_false, Bool.not_true, Bool.not_false, frz, noEx, wipeS, wipeR, backS, backR, keepV, oComp, gFor, iAny, iRange1, iRange2, iRange3, iRangeW1, iRangeW2, eCallQ, oRgW2, oRgW, pInt1, iEnumQ, eDct, iTxt, eFld, eMake, gSetFld, eFldM, eTupV, putP, eLenSet, gFrz, Nat.reduceLT, oRg2, oRg1, oRg, tYesD, pIn, pNotIn, eSl, pNo, pSo, forL_nil, gApp, gParO, List.not_mem_nil, List.not_mem_nil, eq_self, not_true_eq_false, not_false_eq_true, ix30, ix31, ix32, Bool.and_self, and_self, and_true, true_and])
noncomputable def l_accesses_in_1c : PV → Stt → Option Stt := (aName 4)
noncomputable def l_accesses_in_1d : Stt → Res Bool := tYesD
noncomputable def l_accesses_in_1e : Stt → Res PV := (eTup (aCons (eVar 0) (aCons (eC (.str "read")) (aStar (eSl (eVar 1) (pSo (eVar 4)) (pSo (eBin pAdd (eVar 4) (eC (.int 3))))) aNil))))
noncomputable def q_accesses_in_1 : Stt → Fl := (gAsg (eDct [("put" , .tup [.int 2]) , ("move" , .tup [.int 2, .int 5]) , ("sum" , .tup [.int 2, .int 5, .int 8])] (eBin pIx (eVar 1) (eC (.int 0)))) (aName 2))
noncomputable def q_accesses_in_2 : Stt → Fl := (gAsg (frz (oComp [4] (iAny (eSl (eVar 2) (pSo (eC (.int 1))) pNo)) l_accesses_in_1c l_accesses_in_1d l_accesses_in_1e)) (aName 3))
noncomputable def q_accesses_in_3 : Stt → Fl := (gRet (frz (oLst (aStar (eVar 3) (aCons (eTup (aCons (eVar 0) (aCons (eC (.str "write")) (aStar (eSl (eVar 1) (pSo (eBin pIx (eVar 2) (eC (.int 0)))) (pSo (eBin pAdd (eBin pIx (eVar 2) (eC (.int 0))) (eC (.int 3))))) aNil)))) aNil)))))
theorem g_accesses_in_eq : g_accesses_in = (gSeq q_accesses_in_1 (gSeq q_accesses_in_2 (gSeq q_accesses_in_3 gNop))) := rfl
noncomputable def l_access_list_1b : PV → Stt → Option Stt := (aTup 2 (asCons (aName 2) (asCons (aName 3) asNil)))
noncomputable def l_access_list_1c_s1 : Stt → Fl := (gExt 1 (eCall PM.m_accesses_in (avN 2 (lPv (eVar 2) (lPv (eVar 3) lNil)))))
noncomputable def l_access_list_1c : Stt → Fl := (gSeq l_access_list_1c_s1 gNop)
noncomputable def q_access_list_1 : Stt → Fl := (gAsgO 1 (oLst aNil))
noncomputable def q_access_list_2 : Stt → Fl := (gFor (iEnumQ (aCons (eFld "Kernel" "kept_statements" (eVar 0)) aNil)) l_access_list_1b l_access_list_1c)
noncomputable def q_access_list_3 : Stt → Fl := (gRet (frz (oMv 1)))
theorem g_access_list_eq : g_access_list = (gSeq q_access_list_1 (gSeq q_access_list_2 (gSeq q_access_list_3 gNop))) := rfl
noncomputable def q_part_in_1 : Stt → Fl := (gRet (eTup (aCons (eBin pIx (eBin pIx (eFld "Kernel" "kept_statements" (eVar 0)) (eBin pIx (eVar 1) (eC (.int 0)))) (eC (.int 1))) (aCons (eBin pIx (eVar 1) (eC (.int 3))) (aCons (eBin pIx (eVar 1) (eC (.int 4))) aNil)))))
theorem g_part_in_eq : g_part_in = (gSeq q_part_in_1 gNop) := rfl
noncomputable def l_waves_of_1b : PV → Stt → Option Stt := (aName 6)
noncomputable def l_waves_of_1c_s1 : Stt → Fl := (gApp 4 (eTup (aCons (eCall PM.m_in_wave (avN 3 (lPv (eVar 0) (lPv (eVar 1) (lPv (eVar 6) lNil))))) (aCons (eBin pMul (eVar 5) (eVar 1)) (aCons (eBin pAdd (eBin pFdiv (eBin pSub (eBin pSub (eVar 3) (eC (.int 1))) (eVar 6)) (eVar 5)) (eC (.int 1))) aNil)))))
noncomputable def l_waves_of_1c : Stt → Fl := (gSeq l_waves_of_1c_s1 gNop)
noncomputable def q_waves_of_1 : Stt → Fl := (gIf (tOf (eBin pEq (eCall PM.m_lanes_of (avN 1 (lPv (eVar 0) lNil))) (eC (.int 0)))) (gSeq (gRet (frz (oLst aNil))) gNop) gNop)
noncomputable def q_waves_of_2 : Stt → Fl := (gPar 2 3 (aCons (eBin pFdiv (eCall PM.m_first_of (avN 1 (lPv (eVar 0) lNil))) (eVar 1)) (aCons (eBin pFdiv (eCall PM.m_last_of (avN 1 (lPv (eVar 0) lNil))) (eVar 1)) aNil)))
noncomputable def q_waves_of_3 : Stt → Fl := (gAsgO 4 (oLst (aCons (eTup (aCons (eCall PM.m_in_wave (avN 3 (lPv (eVar 0) (lPv (eVar 1) (lPv (eVar 2) lNil))))) (aCons (eC (.int 0)) (aCons (eC (.int 1)) aNil)))) aNil)))
noncomputable def q_waves_of_4 : Stt → Fl := (gIf (tOf (eBin pGt (eVar 3) (eVar 2))) (gSeq (gApp 4 (eTup (aCons (eCall PM.m_in_wave (avN 3 (lPv (eVar 0) (lPv (eVar 1) (lPv (eVar 3) lNil))))) (aCons (eC (.int 0)) (aCons (eC (.int 1)) aNil))))) gNop) gNop)
noncomputable def q_waves_of_5 : Stt → Fl := (gAsg (eBin pFdiv (eBin pIx (eVar 0) (eC (.int 2))) (eBin pIx (eCall PM.m_bezout (avN 2 (lPv (eBin pIx (eVar 0) (eC (.int 2))) (lPv (eVar 1) lNil)))) (eC (.int 0)))) (aName 5))
noncomputable def q_waves_of_6 : Stt → Fl := (gFor (iRangeW2 (aCons (eBin pAdd (eVar 2) (eC (.int 1))) (aCons (eCallB pMin2 (aCons (eBin pAdd (eBin pAdd (eVar 2) (eC (.int 1))) (eVar 5)) (aCons (eVar 3) aNil))) aNil))) l_waves_of_1b l_waves_of_1c)
noncomputable def q_waves_of_7 : Stt → Fl := (gRet (frz (oMv 4)))
theorem g_waves_of_eq : g_waves_of = (gSeq q_waves_of_1 (gSeq q_waves_of_2 (gSeq q_waves_of_3 (gSeq q_waves_of_4 (gSeq q_waves_of_5 (gSeq q_waves_of_6 (gSeq q_waves_of_7 gNop))))))) := rfl
theorem abs_lt {x : Int} {n : Nat} (h0 : 0 ≤ x) (h : x < 2 ^ n) : x.natAbs < 2 ^ n := by
  have e : ((2 ^ n : Nat) : Int) = (2 : Int) ^ n := by simp
  omega
end PM
/-! PLW2: the accesses of a kernel of one put; waves in groups. -/
namespace PM
open PySem PySem.Spec PyProof.Rows L2 PL PN
local macro_rules | `(tactic| walk_at "ev") => `(tactic| try simp only [mOf, endF, start0, gSeq, gNop, gAsg, gRet, gRetO, gAsgO, gDrop, gIf, gOpt, gPar, gPar3, gAug, aName, asNil, asCons, aTup, aLst, setV, setO, eVar, eC, eBin, eUn, eTup, aNil, aCons, oLst, frz, eCall, oCall, avN, avK, permL, lNil, lPv, lSl, tOf, tTru, tNt, tAn, tOrr, eIf, eAn, eOr, eNt, eChain, eCallB, eIxM, gSetIx, getM, pTru, pAdd, pSub, pMul, pFdiv, pMod, pPow, pNeg, pLt, pLe, pGt, pGe, pIs, pIsNot, pAddI, pIx, pLen, pAbs, pMax2, pMin2, Res.bind_ok, Res.bind_ex, Res.bind_stuck, Res.fl_ok, Res.fl_ex, Res.fl_stuck, Res.opt_some, Res.opt_none, lowerA, PL.keyOf, getK, getAll, setAll, setK, distinct, List.map_cons, List.map_nil, List.length_cons, List.length_nil, List.replicate, List.cons_append, List.nil_append, List.append_nil, List.getElem?_cons_zero, List.getElem?_cons_succ, List.getElem?_nil, List.set_cons_zero, List.set_cons_succ, List.filterMap_cons, List.filterMap_nil, Option.bind_some, Option.map_some, Option.elim_some, if_true, if_false, Nat.reduceAdd, Nat.reduceSub, Nat.reduceEqDiff, Nat.reduceLeDiff, ↓reduceIte, Bool.false_eq_true, at0, at1, at2, at3, pEq, pNe, eqB_int, Option.some.injEq, decide_true, decide_false, not_true_eq_false, not_false_eq_true, Bool.and_true, ne_eq, reduceCtorEq, Bool.true_eq_false, Bool.not_true, Bool.not_false, frz, noEx, wipeS, wipeR, backS, backR, keepV, oComp, gFor, iAny, iRange1, iRange2, iRange3, iRangeW1, iRangeW2, eCallQ, oRgW2, oRgW, pInt1, iEnumQ, eDct, iTxt, eFld, eMake, gSetFld, eFldM, eTupV, putP, eLenSet, gFrz, Nat.reduceLT, oRg2, oRg1, oRg, tYesD, pIn, pNotIn, eSl, pNo, pSo, forL_nil, gApp, gParO, List.not_mem_nil, List.not_mem_nil])
local macro_rules | `(tactic| walk_at "evs") => `(tactic| simp only [*, mOf, endF, start0, gSeq, gNop, gAsg, gRet, gRetO, gAsgO, gDrop, gIf, gOpt, gPar, gPar3, gAug, aName, asNil, asCons, aTup, aLst, setV, setO, eVar, eC, eBin, eUn, eTup, aNil, aCons, oLst, frz, eCall, oCall, avN, avK, permL, lNil, lPv, lSl, tOf, tTru, tNt, tAn, tOrr, eIf, eAn, eOr, eNt, eChain, eCallB, eIxM, gSetIx, getM, pTru, pAdd, pSub, pMul, pFdiv, pMod, pPow, pNeg, pLt, pLe, pGt, pGe, pIs, pIsNot, pAddI, pIx, pLen, pAbs, pMax2, pMin2, Res.bind_ok, Res.bind_ex, Res.bind_stuck, Res.fl_ok, Res.fl_ex, Res.fl_stuck, Res.opt_some, Res.opt_none, lowerA, PL.keyOf, getK, getAll, setAll, setK, distinct, List.map_cons, List.map_nil, List.length_cons, List.length_nil, List.replicate, List.cons_append, List.nil_append, List.append_nil, List.getElem?_cons_zero, List.getElem?_cons_succ, List.getElem?_nil, List.set_cons_zero, List.set_cons_succ, List.filterMap_cons, List.filterMap_nil, Option.bind_some, Option.map_some, Option.elim_some, if_true, if_false, Nat.reduceAdd, Nat.reduceSub, Nat.reduceEqDiff, Nat.reduceLeDiff, ↓reduceIte, Bool.false_eq_true, at0, at1, at2, at3, pEq, pNe, eqB_int, Option.some.injEq, decide_true, decide_false, not_true_eq_false, not_false_eq_true, Bool.and_true, ne_eq, reduceCtorEq, Bool.true_eq_false, Bool.not_true, Bool.not_false, frz, noEx, wipeS, wipeR, backS, backR, keepV, oComp, gFor, iAny, iRange1, iRange2, iRange3, iRangeW1, iRangeW2, eCallQ, oRgW2, oRgW, pInt1, iEnumQ, eDct, iTxt, eFld, eMake, gSetFld, eFldM, eTupV, putP, eLenSet, gFrz, Nat.reduceLT, oRg2, oRg1, oRg, tYesD, pIn, pNotIn, eSl, pNo, pSo, forL_nil, gApp, gParO, List.not_mem_nil, List.not_mem_nil, eq_self, not_true_eq_false, not_false_eq_true, ix30, ix31, ix32, Bool.and_self, and_self, and_true, true_and])
abbrev accW (i : Int) (z : Str) (a b : Int) : PV := .tup [.int i, .str "write", .str z, .int a, .int b]
abbrev k1 (t : Int) (p : PV) : PV := kern t [p] []
/-! ### waves in groups -/
def perOf (s W : Int) : Int := s / (Int.gcd s W : Int)
theorem per_pos {s W : Int} (hs : 0 < s) (hW : 0 < W) : 0 < perOf s W := by
  have g0 := gcd_pos (l := s) hW
  obtain ⟨q, hq⟩ : (Int.gcd s W : Int) ∣ s := Int.gcd_dvd_left ..
  unfold perOf
  have : s / (Int.gcd s W : Int) = q := by
    rw [Int.ediv_eq_iff_eq_mul_right (by omega) ⟨q, hq⟩]; exact hq
  rw [this]
  rcases Int.lt_or_le 0 q with c | c
  · exact c
  · have : (Int.gcd s W : Int) * q ≤ (Int.gcd s W : Int) * 0 := Int.mul_le_mul_of_nonneg_left c (by omega)
    omega
theorem per_le {s W : Int} (hs : 0 < s) (hW : 0 < W) : perOf s W ≤ s := Int.ediv_le_self _ (by omega)
theorem per_mod {s W : Int} (hs : 0 < s) (hW : 0 < W) : (perOf s W * W) % s = 0 := by
  have g0 := gcd_pos (l := s) hW
  obtain ⟨q, hq⟩ : (Int.gcd s W : Int) ∣ s := Int.gcd_dvd_left ..
  obtain ⟨q2, hq2⟩ : (Int.gcd s W : Int) ∣ W := Int.gcd_dvd_right ..
  have e : perOf s W = q := by
    unfold perOf
    rw [Int.ediv_eq_iff_eq_mul_right (by omega) ⟨q, hq⟩]; exact hq
  rw [e]
  refine Int.emod_eq_zero_of_dvd ⟨q2, ?_⟩
  generalize (Int.gcd s W : Int) = g at *
  rw [hq2, hq, ← Int.mul_assoc, Int.mul_comm q g]
abbrev wv (l h s r W j by_ many : Int) : PV := .tup [gt (max l (W * j)) (min h (W * j + W)) s r, .int by_, .int many]
abbrev J0 (l s r W : Int) : Int := firstOf l s r / W
abbrev J1 (l h s r W : Int) : Int := lastOf l h s r / W
def heads (l h s r W : Int) : List PV := wv l h s r W (J0 l s r W) 0 1 :: if J0 l s r W < J1 l h s r W then [wv l h s r W (J1 l h s r W) 0 1] else []
def nIn (l h s r W : Int) : Nat := (min (J0 l s r W + 1 + perOf s W) (J1 l h s r W) - (J0 l s r W + 1)).toNat
def wvIn (l h s r W v : Int) : PV := wv l h s r W v (perOf s W * W) ((J1 l h s r W - 1 - v) / perOf s W + 1)
def groups (l h s r W : Int) : List PV := heads l h s r W ++ (List.range (nIn l h s r W)).map fun i : Nat => wvIn l h s r W (J0 l s r W + 1 + (i : Int))
theorem e_waves_of {l h s r W : Int} (g : Gs l h s r) (hW : 1 ≤ W ∧ W ≤ 32) (sW : s < W) (hm : 0 < lanesOf l h s r) : m_waves_of [.val (gt l h s r), .val (.int W)] [] = .ok (.lst (groups l h s r W)) [] := by
  have s0 := g.s0
  have W0 : 0 < W := by omega
  have pp := per_pos s0 W0
  have pl := per_le s0 W0
  have fl := first_le_last s0 hm
  have lh := last_lt s0 hm
  have f1 := first_ge (l := l) (r := r) s0
  have l0 := g.l0
  have a0 : 0 ≤ J0 l s r W := Int.ediv_nonneg (by omega) (by omega)
  have a1 : J0 l s r W ≤ J1 l h s r W := Int.ediv_le_ediv W0 fl
  have ab : J1 l h s r W < 2 ^ 200 := by
    have : J1 l h s r W ≤ lastOf l h s r := Int.ediv_le_self _ (by omega)
    have := g.hb
    omega
  have mulW : ∀ j : Int, 0 ≤ j → j ≤ J1 l h s r W → okMul W j = true := fun j j0 j1 => okMul_of (a := 200) (b := 200) (Nat.lt_of_le_of_lt (m := 32) (by omega) (by decide +kernel)) (abs_lt j0 (by omega)) (by decide) (by decide) (by decide)
  have c0 := e_lanes_of l h s r s0 g.okd
  have c1 := e_first_of l h s r s0
  have c2 := e_last g
  have c3 := e_in_wave (l := l) (h := h) (s := s) (r := r) (mulW _ a0 a1)
  have c4 := e_in_wave (l := l) (h := h) (s := s) (r := r) (mulW _ (by omega) (Int.le_refl _))
  obtain ⟨bx, c5⟩ := e_gcd s W (by omega) W0 (Nat.lt_of_le_of_lt (m := 32) (by omega) (by decide +kernel)) (Nat.lt_of_le_of_lt (m := 32) (by omega) (by decide +kernel))
  have g0 := gcd_pos (l := s) W0
  have gle : (Int.gcd s W : Int) ≤ s := Int.le_of_dvd s0 (Int.gcd_dvd_left ..)
  have kW := okDiv32 hW
  have kG : okDiv (Int.gcd s W : Int) = true := okDiv_of (b := 40) (by omega) (Nat.lt_of_le_of_lt (m := 32) (by omega) (by decide +kernel)) (by decide) (by decide)
  have kP : okDiv (perOf s W) = true := okDiv_of (b := 40) (by omega) (Nat.lt_of_le_of_lt (m := 32) (by omega) (by decide +kernel)) (by decide) (by decide)
  have zW : (W = 0) = False := by simp; omega
  have zG : ((Int.gcd s W : Int) = 0) = False := by simp only [eq_iff_iff, iff_false]; omega
  have zP : (perOf s W = 0) = False := by simp only [eq_iff_iff, iff_false]; omega
  have d1 : (firstOf l s r).fdiv W = J0 l s r W := Int.fdiv_eq_ediv_of_nonneg _ (by omega)
  have d2 : (lastOf l h s r).fdiv W = J1 l h s r W := Int.fdiv_eq_ediv_of_nonneg _ (by omega)
  have d3 : s.fdiv (Int.gcd s W : Int) = perOf s W := Int.fdiv_eq_ediv_of_nonneg _ (by omega)
  have kPW : okMul (perOf s W) W = true := okMul_of (a := 40) (b := 40) (Nat.lt_of_le_of_lt (m := 32) (by omega) (by decide +kernel)) (Nat.lt_of_le_of_lt (m := 32) (by omega) (by decide +kernel)) (by decide) (by decide) (by decide)
  have b0 : (lanesOf l h s r == 0) = false := by simp; omega
  have bz := eqB_int (lanesOf l h s r) 0
  have t1 : q_waves_of_1 ⟨[some (.val (gt l h s r)), some (.val (.int W)), none, none, none, none, none], []⟩ = .nx ⟨[some (.val (gt l h s r)), some (.val (.int W)), none, none, none, none, none], []⟩ := by
    clear mulW c1 c2 c3 c4 c5 d1 d2 d3 kW kG kP zW zG zP kPW gle g0 ab a1 a0 l0 f1 lh fl pl pp W0 s0 g hW sW hm
    unfold q_waves_of_1
    iterate 4 (walk_at "ev"; try walk_at "evs")
  have t2 : q_waves_of_2 ⟨[some (.val (gt l h s r)), some (.val (.int W)), none, none, none, none, none], []⟩ = .nx ⟨[some (.val (gt l h s r)), some (.val (.int W)), some (.val (.int (J0 l s r W))), some (.val (.int (J1 l h s r W))), none, none, none], []⟩ := by
    clear mulW c0 c3 c4 c5 d3 kG kP zG zP kPW gle g0 ab a1 a0 l0 f1 lh fl pl pp W0 s0 g hW sW hm b0 bz t1
    unfold q_waves_of_2
    iterate 5 (walk_at "ev"; try walk_at "evs")
  have t3 : q_waves_of_3 ⟨[some (.val (gt l h s r)), some (.val (.int W)), some (.val (.int (J0 l s r W))), some (.val (.int (J1 l h s r W))), none, none, none], []⟩ = .nx ⟨[some (.val (gt l h s r)), some (.val (.int W)), some (.val (.int (J0 l s r W))), some (.val (.int (J1 l h s r W))), some (.own (.lst ([wv l h s r W (J0 l s r W) 0 1]))), none, none], []⟩ := by
    clear mulW c0 c1 c2 c4 c5 d1 d2 d3 kW kG kP zW zG zP kPW gle g0 ab a1 a0 l0 f1 lh fl pl pp W0 s0 g hW sW hm b0 bz t1 t2
    generalize J0 l s r W = j0 at *
    generalize J1 l h s r W = j1 at *
    unfold q_waves_of_3
    iterate 5 (walk_at "ev"; try walk_at "evs")
  have t4 : q_waves_of_4 ⟨[some (.val (gt l h s r)), some (.val (.int W)), some (.val (.int (J0 l s r W))), some (.val (.int (J1 l h s r W))), some (.own (.lst ([wv l h s r W (J0 l s r W) 0 1]))), none, none], []⟩ = .nx ⟨[some (.val (gt l h s r)), some (.val (.int W)), some (.val (.int (J0 l s r W))), some (.val (.int (J1 l h s r W))), some (.own (.lst (heads l h s r W))), none, none], []⟩ := by
    unfold heads
    clear mulW c0 c1 c2 c3 c5 d1 d2 d3 kW kG kP zW zG zP kPW gle g0 ab a0 l0 f1 lh fl pl pp W0 s0 g hW sW hm b0 bz t1 t2 t3
    generalize J0 l s r W = j0 at *
    generalize J1 l h s r W = j1 at *
    unfold q_waves_of_4
    by_cases q : j0 < j1
    · have qd : decide (j1 > j0) = true := decide_eq_true q
      rw [if_pos q]
      clear q a1
      iterate 6 (walk_at "ev"; try walk_at "evs")
      try rfl
    · have qd : decide (j1 > j0) = false := decide_eq_false q
      rw [if_neg q]
      clear q a1
      iterate 5 (walk_at "ev"; try walk_at "evs")
  have t5 : q_waves_of_5 ⟨[some (.val (gt l h s r)), some (.val (.int W)), some (.val (.int (J0 l s r W))), some (.val (.int (J1 l h s r W))), some (.own (.lst (heads l h s r W))), none, none], []⟩ = .nx ⟨[some (.val (gt l h s r)), some (.val (.int W)), some (.val (.int (J0 l s r W))), some (.val (.int (J1 l h s r W))), some (.own (.lst (heads l h s r W))), some (.val (.int (perOf s W))), none], []⟩ := by
    clear mulW c0 c1 c2 c3 c4 d1 d2 kW kP zW zP kPW gle g0 ab a0 a1 l0 f1 lh fl pl pp W0 s0 g hW sW hm b0 bz t1 t2 t3 t4
    generalize J0 l s r W = j0 at *
    generalize J1 l h s r W = j1 at *
    generalize heads l h s r W = hd at *
    unfold q_waves_of_5
    iterate 6 (walk_at "ev"; try walk_at "evs")
  have nn : nIn l h s r W ≤ 32 := by unfold nIn; omega
  have hl2 : (heads l h s r W).length ≤ 2 := by unfold heads; split <;> simp
  obtain ⟨x, e6⟩ : ∃ x, forL l_waves_of_1b l_waves_of_1c ((List.range (nIn l h s r W)).map fun i : Nat => PV.int (J0 l s r W + 1 + (i : Int))) ⟨[some (.val (gt l h s r)), some (.val (.int W)), some (.val (.int (J0 l s r W))), some (.val (.int (J1 l h s r W))), some (.own (.lst (heads l h s r W))), some (.val (.int (perOf s W))), none], []⟩ = .nx ⟨[some (.val (gt l h s r)), some (.val (.int W)), some (.val (.int (J0 l s r W))), some (.val (.int (J1 l h s r W))), some (.own (.lst (groups l h s r W))), some (.val (.int (perOf s W))), x], []⟩ := by
    obtain ⟨s2, e2, x, rfl⟩ := forL_inv (a := l_waves_of_1b) (b := l_waves_of_1c) (fun i z => ∃ x, z = ⟨[some (.val (gt l h s r)), some (.val (.int W)), some (.val (.int (J0 l s r W))), some (.val (.int (J1 l h s r W))), some (.own (.lst (heads l h s r W ++ (List.range i).map fun i : Nat => wvIn l h s r W (J0 l s r W + 1 + (i : Int))))), some (.val (.int (perOf s W))), x], []⟩) ((List.range (nIn l h s r W)).map fun i : Nat => PV.int (J0 l s r W + 1 + (i : Int))) 0 ⟨[some (.val (gt l h s r)), some (.val (.int W)), some (.val (.int (J0 l s r W))), some (.val (.int (J1 l h s r W))), some (.own (.lst (heads l h s r W))), some (.val (.int (perOf s W))), none], []⟩ ⟨none, by simp⟩ (by
      rintro i p z hp ⟨x, rfl⟩
      have hi : i < nIn l h s r W := by
        have := (List.getElem?_eq_some_iff.mp hp).1
        simpa using this
      rw [List.getElem?_map, List.getElem?_range hi] at hp
      cases hp
      rw [Nat.zero_add]
      have hv : J0 l s r W + 1 + (i : Int) < J1 l h s r W := by unfold nIn at hi; omega
      refine ⟨_, rfl, ⟨[some (.val (gt l h s r)), some (.val (.int W)), some (.val (.int (J0 l s r W))), some (.val (.int (J1 l h s r W))), some (.own (.lst (heads l h s r W ++ (List.range (i + 1)).map fun i : Nat => wvIn l h s r W (J0 l s r W + 1 + (i : Int))))), some (.val (.int (perOf s W))), some (.val (.int (J0 l s r W + 1 + (i : Int))))], []⟩, .inl ?_, some (.val (.int (J0 l s r W + 1 + (i : Int)))), rfl⟩
      have ml : ((heads l h s r W) ++ (List.range i).map fun i : Nat => wvIn l h s r W (J0 l s r W + 1 + (i : Int))).length < 16777216 := by simp; omega
      rw [List.range_succ, List.map_append, ← List.append_assoc]
      generalize (heads l h s r W) ++ (List.range i).map (fun i : Nat => wvIn l h s r W (J0 l s r W + 1 + (i : Int))) = acc at *
      have c6 := e_in_wave (l := l) (h := h) (s := s) (r := r) (mulW (J0 l s r W + 1 + (i : Int)) (by omega) (by omega))
      have d4 : (J1 l h s r W - 1 - (J0 l s r W + 1 + (i : Int))).fdiv (perOf s W) = (J1 l h s r W - 1 - (J0 l s r W + 1 + (i : Int))) / perOf s W := Int.fdiv_eq_ediv_of_nonneg _ (by omega)
      show l_waves_of_1c ⟨[some (.val (gt l h s r)), some (.val (.int W)), some (.val (.int (J0 l s r W))), some (.val (.int (J1 l h s r W))), some (.own (.lst (acc))), some (.val (.int (perOf s W))), some (.val (.int (J0 l s r W + 1 + (i : Int))))], []⟩ = .nx ⟨[some (.val (gt l h s r)), some (.val (.int W)), some (.val (.int (J0 l s r W))), some (.val (.int (J1 l h s r W))), some (.own (.lst (acc ++ [wvIn l h s r W (J0 l s r W + 1 + (i : Int))]))), some (.val (.int (perOf s W))), some (.val (.int (J0 l s r W + 1 + (i : Int))))], []⟩
      have q : eTup (aCons (eCall PM.m_in_wave (avN 3 (lPv (eVar 0) (lPv (eVar 1) (lPv (eVar 6) lNil))))) (aCons (eBin pMul (eVar 5) (eVar 1)) (aCons (eBin pAdd (eBin pFdiv (eBin pSub (eBin pSub (eVar 3) (eC (.int 1))) (eVar 6)) (eVar 5)) (eC (.int 1))) aNil))) ⟨[some (.val (gt l h s r)), some (.val (.int W)), some (.val (.int (J0 l s r W))), some (.val (.int (J1 l h s r W))), some (.own (.lst (acc))), some (.val (.int (perOf s W))), some (.val (.int (J0 l s r W + 1 + (i : Int))))], []⟩ = .ok (wvIn l h s r W (J0 l s r W + 1 + (i : Int))) ⟨[some (.val (gt l h s r)), some (.val (.int W)), some (.val (.int (J0 l s r W))), some (.val (.int (J1 l h s r W))), some (.own (.lst (acc))), some (.val (.int (perOf s W))), some (.val (.int (J0 l s r W + 1 + (i : Int))))], []⟩ := by
        unfold wvIn
        clear hv hi ml mulW c0 c1 c2 c3 c4 c5 d1 d2 d3 kW kG zW zG gle g0 ab a1 a0 l0 f1 lh fl pl pp W0 s0 g hW sW hm b0 bz t1 t2 t3 t4 t5 nn hl2
        generalize J1 l h s r W = j1 at *
        generalize J0 l s r W = j0 at *
        generalize j0 + 1 + (i : Int) = v at *
        generalize perOf s W = p at *
        iterate 6 (walk_at "ev"; try walk_at "evs")
      unfold l_waves_of_1c l_waves_of_1c_s1
      have gm : getM (⟨[some (.val (gt l h s r)), some (.val (.int W)), some (.val (.int (J0 l s r W))), some (.val (.int (J1 l h s r W))), some (.own (.lst (acc))), some (.val (.int (perOf s W))), some (.val (.int (J0 l s r W + 1 + (i : Int))))], []⟩ : Stt) 4 = some (.inl 4, .lst acc) := rfl
      simp only [gSeq, gNop, gApp, gm, q, Option.elim_some, Res.fl]
      rw [if_pos ml]
      rfl)
    rw [List.length_map, List.length_range, Nat.zero_add] at e2
    exact ⟨x, e2⟩
  have t6 : q_waves_of_6 ⟨[some (.val (gt l h s r)), some (.val (.int W)), some (.val (.int (J0 l s r W))), some (.val (.int (J1 l h s r W))), some (.own (.lst (heads l h s r W))), some (.val (.int (perOf s W))), none], []⟩ = .nx ⟨[some (.val (gt l h s r)), some (.val (.int W)), some (.val (.int (J0 l s r W))), some (.val (.int (J1 l h s r W))), some (.own (.lst (groups l h s r W))), some (.val (.int (perOf s W))), x], []⟩ := by
    have mn : (if J1 l h s r W < J0 l s r W + 1 + perOf s W then J1 l h s r W else J0 l s r W + 1 + perOf s W) = min (J0 l s r W + 1 + perOf s W) (J1 l h s r W) := by split <;> omega
    have rn : rng (J0 l s r W + 1) (min (J0 l s r W + 1 + perOf s W) (J1 l h s r W) - (J0 l s r W + 1)).toNat = (List.range (nIn l h s r W)).map fun i : Nat => PV.int (J0 l s r W + 1 + (i : Int)) := rfl
    clear mulW c0 c1 c2 c3 c4 c5 d1 d2 d3 kW kG zW zG gle g0 ab a1 a0 l0 f1 lh fl pl pp W0 s0 g hW sW hm b0 bz t1 t2 t3 t4 t5 nn hl2
    generalize groups l h s r W = gr at *
    generalize heads l h s r W = hd at *
    generalize nIn l h s r W = n at *
    generalize J1 l h s r W = j1 at *
    generalize J0 l s r W = j0 at *
    generalize perOf s W = p at *
    unfold q_waves_of_6
    iterate 5 (walk_at "ev"; try walk_at "evs")
  have t7 : q_waves_of_7 ⟨[some (.val (gt l h s r)), some (.val (.int W)), some (.val (.int (J0 l s r W))), some (.val (.int (J1 l h s r W))), some (.own (.lst (groups l h s r W))), some (.val (.int (perOf s W))), x], []⟩ = .rt (.lst (groups l h s r W)) ⟨[some (.val (gt l h s r)), some (.val (.int W)), some (.val (.int (J0 l s r W))), some (.val (.int (J1 l h s r W))), none, some (.val (.int (perOf s W))), x], []⟩ := rfl
  unfold m_waves_of
  rw [g_waves_of_eq]
  simp only [mOf, start0, List.map_cons, List.map_nil, List.length_cons, List.length_nil, Nat.reduceAdd, Nat.reduceSub, List.replicate, List.cons_append, List.nil_append]
  rw [seq_nx t1, seq_nx t2, seq_nx t3, seq_nx t4, seq_nx t5, seq_nx t6, seq_rt t7]
  rfl
end PM
/-! PLW3: count_lines and lines_of_wave answer the lines. -/
namespace PN
theorem range_sum (f : Int → Int) (A : Int) : ∀ n : Nat, ((List.range n).map fun i : Nat => f (A + (i : Int))).sum = sumI f A n
  | 0 => rfl
  | n + 1 => by
    rw [List.range_succ, List.map_append, List.sum_append, range_sum f A n]
    show _ + (f (A + (n : Int)) + 0) = sumI f A n + f (A + (n : Int))
    omega
end PN
namespace PM
open PySem PySem.Spec PyProof.Rows L2 PL PN
local macro_rules | `(tactic| walk_at "ev") => `(tactic| try simp only [mOf, endF, start0, gSeq, gNop, gAsg, gRet, gRetO, gAsgO, gDrop, gIf, gOpt, gPar, gPar3, gAug, aName, asNil, asCons, aTup, aLst, setV, setO, eVar, eC, eBin, eUn, eTup, aNil, aCons, oLst, frz, eCall, oCall, avN, avK, permL, lNil, lPv, lSl, tOf, tTru, tNt, tAn, tOrr, eIf, eAn, eOr, eNt, eChain, eCallB, eIxM, gSetIx, getM, pTru, pAdd, pSub, pMul, pFdiv, pMod, pPow, pNeg, pLt, pLe, pGt, pGe, pIs, pIsNot, pAddI, pIx, pLen, pAbs, pMax2, pMin2, Res.bind_ok, Res.bind_ex, Res.bind_stuck, Res.fl_ok, Res.fl_ex, Res.fl_stuck, Res.opt_some, Res.opt_none, lowerA, PL.keyOf, getK, getAll, setAll, setK, distinct, List.map_cons, List.map_nil, List.length_cons, List.length_nil, List.replicate, List.cons_append, List.nil_append, List.append_nil, List.getElem?_cons_zero, List.getElem?_cons_succ, List.getElem?_nil, List.set_cons_zero, List.set_cons_succ, List.filterMap_cons, List.filterMap_nil, Option.bind_some, Option.map_some, Option.elim_some, if_true, if_false, Nat.reduceAdd, Nat.reduceSub, Nat.reduceEqDiff, Nat.reduceLeDiff, ↓reduceIte, Bool.false_eq_true, at0, at1, at2, at3, pEq, pNe, eqB_int, Option.some.injEq, decide_true, decide_false, not_true_eq_false, not_false_eq_true, Bool.and_true, ne_eq, reduceCtorEq, Bool.true_eq_false, Bool.not_true, Bool.not_false, frz, noEx, wipeS, wipeR, backS, backR, keepV, oComp, gFor, iAny, iRange1, iRange2, iRange3, iRangeW1, iRangeW2, eCallQ, oRgW2, oRgW, pInt1, iEnumQ, eDct, iTxt, eFld, eMake, gSetFld, eFldM, eTupV, putP, eLenSet, gFrz, Nat.reduceLT, oRg2, oRg1, oRg, tYesD, pIn, pNotIn, eSl, pNo, pSo, forL_nil, gApp, gParO, List.not_mem_nil, List.not_mem_nil])
local macro_rules | `(tactic| walk_at "evs") => `(tactic| simp only [*, mOf, endF, start0, gSeq, gNop, gAsg, gRet, gRetO, gAsgO, gDrop, gIf, gOpt, gPar, gPar3, gAug, aName, asNil, asCons, aTup, aLst, setV, setO, eVar, eC, eBin, eUn, eTup, aNil, aCons, oLst, frz, eCall, oCall, avN, avK, permL, lNil, lPv, lSl, tOf, tTru, tNt, tAn, tOrr, eIf, eAn, eOr, eNt, eChain, eCallB, eIxM, gSetIx, getM, pTru, pAdd, pSub, pMul, pFdiv, pMod, pPow, pNeg, pLt, pLe, pGt, pGe, pIs, pIsNot, pAddI, pIx, pLen, pAbs, pMax2, pMin2, Res.bind_ok, Res.bind_ex, Res.bind_stuck, Res.fl_ok, Res.fl_ex, Res.fl_stuck, Res.opt_some, Res.opt_none, lowerA, PL.keyOf, getK, getAll, setAll, setK, distinct, List.map_cons, List.map_nil, List.length_cons, List.length_nil, List.replicate, List.cons_append, List.nil_append, List.append_nil, List.getElem?_cons_zero, List.getElem?_cons_succ, List.getElem?_nil, List.set_cons_zero, List.set_cons_succ, List.filterMap_cons, List.filterMap_nil, Option.bind_some, Option.map_some, Option.elim_some, if_true, if_false, Nat.reduceAdd, Nat.reduceSub, Nat.reduceEqDiff, Nat.reduceLeDiff, ↓reduceIte, Bool.false_eq_true, at0, at1, at2, at3, pEq, pNe, eqB_int, Option.some.injEq, decide_true, decide_false, not_true_eq_false, not_false_eq_true, Bool.and_true, ne_eq, reduceCtorEq, Bool.true_eq_false, Bool.not_true, Bool.not_false, frz, noEx, wipeS, wipeR, backS, backR, keepV, oComp, gFor, iAny, iRange1, iRange2, iRange3, iRangeW1, iRangeW2, eCallQ, oRgW2, oRgW, pInt1, iEnumQ, eDct, iTxt, eFld, eMake, gSetFld, eFldM, eTupV, putP, eLenSet, gFrz, Nat.reduceLT, oRg2, oRg1, oRg, tYesD, pIn, pNotIn, eSl, pNo, pSo, forL_nil, gApp, gParO, List.not_mem_nil, List.not_mem_nil, eq_self, not_true_eq_false, not_false_eq_true, ix30, ix31, ix32, Bool.and_self, and_self, and_true, true_and])
theorem wk {x : Int} {i j : Nat} (h : x.natAbs < 2 ^ i) (hij : i ≤ j) : x.natAbs < 2 ^ j := Nat.lt_of_lt_of_le h (Nat.pow_le_pow_right (by decide) hij)
end PM
/-! PLW4: lines of a wave; mirrored kernels of one put. -/
namespace PN
end PN
namespace PM
open PySem PySem.Spec PyProof.Rows L2 PL PN
local macro_rules | `(tactic| walk_at "ev") => `(tactic| try simp only [mOf, endF, start0, gSeq, gNop, gAsg, gRet, gRetO, gAsgO, gDrop, gIf, gOpt, gPar, gPar3, gAug, aName, asNil, asCons, aTup, aLst, setV, setO, eVar, eC, eBin, eUn, eTup, aNil, aCons, oLst, frz, eCall, oCall, avN, avK, permL, lNil, lPv, lSl, tOf, tTru, tNt, tAn, tOrr, eIf, eAn, eOr, eNt, eChain, eCallB, eIxM, gSetIx, getM, pTru, pAdd, pSub, pMul, pFdiv, pMod, pPow, pNeg, pLt, pLe, pGt, pGe, pIs, pIsNot, pAddI, pIx, pLen, pAbs, pMax2, pMin2, Res.bind_ok, Res.bind_ex, Res.bind_stuck, Res.fl_ok, Res.fl_ex, Res.fl_stuck, Res.opt_some, Res.opt_none, lowerA, PL.keyOf, getK, getAll, setAll, setK, distinct, List.map_cons, List.map_nil, List.length_cons, List.length_nil, List.replicate, List.cons_append, List.nil_append, List.append_nil, List.getElem?_cons_zero, List.getElem?_cons_succ, List.getElem?_nil, List.set_cons_zero, List.set_cons_succ, List.filterMap_cons, List.filterMap_nil, Option.bind_some, Option.map_some, Option.elim_some, if_true, if_false, Nat.reduceAdd, Nat.reduceSub, Nat.reduceEqDiff, Nat.reduceLeDiff, ↓reduceIte, Bool.false_eq_true, at0, at1, at2, at3, pEq, pNe, eqB_int, Option.some.injEq, decide_true, decide_false, not_true_eq_false, not_false_eq_true, Bool.and_true, ne_eq, reduceCtorEq, Bool.true_eq_false, Bool.not_true, Bool.not_false, frz, noEx, wipeS, wipeR, backS, backR, keepV, oComp, gFor, iAny, iRange1, iRange2, iRange3, iRangeW1, iRangeW2, eCallQ, oRgW2, oRgW, pInt1, iEnumQ, eDct, iTxt, eFld, eMake, gSetFld, eFldM, eTupV, putP, eLenSet, gFrz, Nat.reduceLT, oRg2, oRg1, oRg, tYesD, pIn, pNotIn, eSl, pNo, pSo, forL_nil, gApp, gParO, List.not_mem_nil, List.not_mem_nil])
local macro_rules | `(tactic| walk_at "evs") => `(tactic| simp only [*, mOf, endF, start0, gSeq, gNop, gAsg, gRet, gRetO, gAsgO, gDrop, gIf, gOpt, gPar, gPar3, gAug, aName, asNil, asCons, aTup, aLst, setV, setO, eVar, eC, eBin, eUn, eTup, aNil, aCons, oLst, frz, eCall, oCall, avN, avK, permL, lNil, lPv, lSl, tOf, tTru, tNt, tAn, tOrr, eIf, eAn, eOr, eNt, eChain, eCallB, eIxM, gSetIx, getM, pTru, pAdd, pSub, pMul, pFdiv, pMod, pPow, pNeg, pLt, pLe, pGt, pGe, pIs, pIsNot, pAddI, pIx, pLen, pAbs, pMax2, pMin2, Res.bind_ok, Res.bind_ex, Res.bind_stuck, Res.fl_ok, Res.fl_ex, Res.fl_stuck, Res.opt_some, Res.opt_none, lowerA, PL.keyOf, getK, getAll, setAll, setK, distinct, List.map_cons, List.map_nil, List.length_cons, List.length_nil, List.replicate, List.cons_append, List.nil_append, List.append_nil, List.getElem?_cons_zero, List.getElem?_cons_succ, List.getElem?_nil, List.set_cons_zero, List.set_cons_succ, List.filterMap_cons, List.filterMap_nil, Option.bind_some, Option.map_some, Option.elim_some, if_true, if_false, Nat.reduceAdd, Nat.reduceSub, Nat.reduceEqDiff, Nat.reduceLeDiff, ↓reduceIte, Bool.false_eq_true, at0, at1, at2, at3, pEq, pNe, eqB_int, Option.some.injEq, decide_true, decide_false, not_true_eq_false, not_false_eq_true, Bool.and_true, ne_eq, reduceCtorEq, Bool.true_eq_false, Bool.not_true, Bool.not_false, frz, noEx, wipeS, wipeR, backS, backR, keepV, oComp, gFor, iAny, iRange1, iRange2, iRange3, iRangeW1, iRangeW2, eCallQ, oRgW2, oRgW, pInt1, iEnumQ, eDct, iTxt, eFld, eMake, gSetFld, eFldM, eTupV, putP, eLenSet, gFrz, Nat.reduceLT, oRg2, oRg1, oRg, tYesD, pIn, pNotIn, eSl, pNo, pSo, forL_nil, gApp, gParO, List.not_mem_nil, List.not_mem_nil, eq_self, not_true_eq_false, not_false_eq_true, ix30, ix31, ix32, Bool.and_self, and_self, and_true, true_and])
/-! ### mirrored -/
end PM
/-! PLW5: count_lines and lines_of_wave of any access. -/
namespace PM
open PySem PySem.Spec PyProof.Rows L2 PL PN
local macro_rules | `(tactic| walk_at "ev") => `(tactic| try simp only [mOf, endF, start0, gSeq, gNop, gAsg, gRet, gRetO, gAsgO, gDrop, gIf, gOpt, gPar, gPar3, gAug, aName, asNil, asCons, aTup, aLst, setV, setO, eVar, eC, eBin, eUn, eTup, aNil, aCons, oLst, frz, eCall, oCall, avN, avK, permL, lNil, lPv, lSl, tOf, tTru, tNt, tAn, tOrr, eIf, eAn, eOr, eNt, eChain, eCallB, eIxM, gSetIx, getM, pTru, pAdd, pSub, pMul, pFdiv, pMod, pPow, pNeg, pLt, pLe, pGt, pGe, pIs, pIsNot, pAddI, pIx, pLen, pAbs, pMax2, pMin2, Res.bind_ok, Res.bind_ex, Res.bind_stuck, Res.fl_ok, Res.fl_ex, Res.fl_stuck, Res.opt_some, Res.opt_none, lowerA, PL.keyOf, getK, getAll, setAll, setK, distinct, List.map_cons, List.map_nil, List.length_cons, List.length_nil, List.replicate, List.cons_append, List.nil_append, List.append_nil, List.getElem?_cons_zero, List.getElem?_cons_succ, List.getElem?_nil, List.set_cons_zero, List.set_cons_succ, List.filterMap_cons, List.filterMap_nil, Option.bind_some, Option.map_some, Option.elim_some, if_true, if_false, Nat.reduceAdd, Nat.reduceSub, Nat.reduceEqDiff, Nat.reduceLeDiff, ↓reduceIte, Bool.false_eq_true, at0, at1, at2, at3, pEq, pNe, eqB_int, Option.some.injEq, decide_true, decide_false, not_true_eq_false, not_false_eq_true, Bool.and_true, ne_eq, reduceCtorEq, Bool.true_eq_false, Bool.not_true, Bool.not_false, frz, noEx, wipeS, wipeR, backS, backR, keepV, oComp, gFor, iAny, iRange1, iRange2, iRange3, iRangeW1, iRangeW2, eCallQ, oRgW2, oRgW, pInt1, iEnumQ, eDct, iTxt, eFld, eMake, gSetFld, eFldM, eTupV, putP, eLenSet, gFrz, Nat.reduceLT, oRg2, oRg1, oRg, tYesD, pIn, pNotIn, eSl, pNo, pSo, forL_nil, gApp, gParO, List.not_mem_nil, List.not_mem_nil])
local macro_rules | `(tactic| walk_at "evs") => `(tactic| simp only [*, mOf, endF, start0, gSeq, gNop, gAsg, gRet, gRetO, gAsgO, gDrop, gIf, gOpt, gPar, gPar3, gAug, aName, asNil, asCons, aTup, aLst, setV, setO, eVar, eC, eBin, eUn, eTup, aNil, aCons, oLst, frz, eCall, oCall, avN, avK, permL, lNil, lPv, lSl, tOf, tTru, tNt, tAn, tOrr, eIf, eAn, eOr, eNt, eChain, eCallB, eIxM, gSetIx, getM, pTru, pAdd, pSub, pMul, pFdiv, pMod, pPow, pNeg, pLt, pLe, pGt, pGe, pIs, pIsNot, pAddI, pIx, pLen, pAbs, pMax2, pMin2, Res.bind_ok, Res.bind_ex, Res.bind_stuck, Res.fl_ok, Res.fl_ex, Res.fl_stuck, Res.opt_some, Res.opt_none, lowerA, PL.keyOf, getK, getAll, setAll, setK, distinct, List.map_cons, List.map_nil, List.length_cons, List.length_nil, List.replicate, List.cons_append, List.nil_append, List.append_nil, List.getElem?_cons_zero, List.getElem?_cons_succ, List.getElem?_nil, List.set_cons_zero, List.set_cons_succ, List.filterMap_cons, List.filterMap_nil, Option.bind_some, Option.map_some, Option.elim_some, if_true, if_false, Nat.reduceAdd, Nat.reduceSub, Nat.reduceEqDiff, Nat.reduceLeDiff, ↓reduceIte, Bool.false_eq_true, at0, at1, at2, at3, pEq, pNe, eqB_int, Option.some.injEq, decide_true, decide_false, not_true_eq_false, not_false_eq_true, Bool.and_true, ne_eq, reduceCtorEq, Bool.true_eq_false, Bool.not_true, Bool.not_false, frz, noEx, wipeS, wipeR, backS, backR, keepV, oComp, gFor, iAny, iRange1, iRange2, iRange3, iRangeW1, iRangeW2, eCallQ, oRgW2, oRgW, pInt1, iEnumQ, eDct, iTxt, eFld, eMake, gSetFld, eFldM, eTupV, putP, eLenSet, gFrz, Nat.reduceLT, oRg2, oRg1, oRg, tYesD, pIn, pNotIn, eSl, pNo, pSo, forL_nil, gApp, gParO, List.not_mem_nil, List.not_mem_nil, eq_self, not_true_eq_false, not_false_eq_true, ix30, ix31, ix32, Bool.and_self, and_self, and_true, true_and])
end PM
/-! PWK: statements of all words, kernels with barriers. -/
namespace PM
open PySem PySem.Spec PyProof.Rows L2 PL PN
local macro_rules | `(tactic| walk_at "ev") => `(tactic| try simp only [mOf, endF, start0, gSeq, gNop, gAsg, gRet, gRetO, gAsgO, gDrop, gIf, gOpt, gPar, gPar3, gAug, aName, asNil, asCons, aTup, aLst, setV, setO, eVar, eC, eBin, eUn, eTup, aNil, aCons, oLst, frz, eCall, oCall, avN, avK, permL, lNil, lPv, lSl, tOf, tTru, tNt, tAn, tOrr, eIf, eAn, eOr, eNt, eChain, eCallB, eIxM, gSetIx, getM, pTru, pAdd, pSub, pMul, pFdiv, pMod, pPow, pNeg, pLt, pLe, pGt, pGe, pIs, pIsNot, pAddI, pIx, pLen, pAbs, pMax2, pMin2, Res.bind_ok, Res.bind_ex, Res.bind_stuck, Res.fl_ok, Res.fl_ex, Res.fl_stuck, Res.opt_some, Res.opt_none, lowerA, PL.keyOf, getK, getAll, setAll, setK, distinct, List.map_cons, List.map_nil, List.length_cons, List.length_nil, List.replicate, List.cons_append, List.nil_append, List.append_nil, List.getElem?_cons_zero, List.getElem?_cons_succ, List.getElem?_nil, List.set_cons_zero, List.set_cons_succ, List.filterMap_cons, List.filterMap_nil, Option.bind_some, Option.map_some, Option.elim_some, if_true, if_false, Nat.reduceAdd, Nat.reduceSub, Nat.reduceEqDiff, Nat.reduceLeDiff, ↓reduceIte, Bool.false_eq_true, at0, at1, at2, at3, pEq, pNe, eqB_int, Option.some.injEq, decide_true, decide_false, not_true_eq_false, not_false_eq_true, Bool.and_true, ne_eq, reduceCtorEq, Bool.true_eq_false, Bool.not_true, Bool.not_false, frz, noEx, wipeS, wipeR, backS, backR, keepV, oComp, gFor, iAny, iRange1, iRange2, iRange3, iRangeW1, iRangeW2, eCallQ, oRgW2, oRgW, pInt1, iEnumQ, eDct, iTxt, eFld, eMake, gSetFld, eFldM, eTupV, putP, eLenSet, gFrz, Nat.reduceLT, oRg2, oRg1, oRg, tYesD, pIn, pNotIn, eSl, pNo, pSo, forL_nil, gApp, gParO, List.not_mem_nil, List.not_mem_nil])
local macro_rules | `(tactic| walk_at "evs") => `(tactic| simp only [*, mOf, endF, start0, gSeq, gNop, gAsg, gRet, gRetO, gAsgO, gDrop, gIf, gOpt, gPar, gPar3, gAug, aName, asNil, asCons, aTup, aLst, setV, setO, eVar, eC, eBin, eUn, eTup, aNil, aCons, oLst, frz, eCall, oCall, avN, avK, permL, lNil, lPv, lSl, tOf, tTru, tNt, tAn, tOrr, eIf, eAn, eOr, eNt, eChain, eCallB, eIxM, gSetIx, getM, pTru, pAdd, pSub, pMul, pFdiv, pMod, pPow, pNeg, pLt, pLe, pGt, pGe, pIs, pIsNot, pAddI, pIx, pLen, pAbs, pMax2, pMin2, Res.bind_ok, Res.bind_ex, Res.bind_stuck, Res.fl_ok, Res.fl_ex, Res.fl_stuck, Res.opt_some, Res.opt_none, lowerA, PL.keyOf, getK, getAll, setAll, setK, distinct, List.map_cons, List.map_nil, List.length_cons, List.length_nil, List.replicate, List.cons_append, List.nil_append, List.append_nil, List.getElem?_cons_zero, List.getElem?_cons_succ, List.getElem?_nil, List.set_cons_zero, List.set_cons_succ, List.filterMap_cons, List.filterMap_nil, Option.bind_some, Option.map_some, Option.elim_some, if_true, if_false, Nat.reduceAdd, Nat.reduceSub, Nat.reduceEqDiff, Nat.reduceLeDiff, ↓reduceIte, Bool.false_eq_true, at0, at1, at2, at3, pEq, pNe, eqB_int, Option.some.injEq, decide_true, decide_false, not_true_eq_false, not_false_eq_true, Bool.and_true, ne_eq, reduceCtorEq, Bool.true_eq_false, Bool.not_true, Bool.not_false, frz, noEx, wipeS, wipeR, backS, backR, keepV, oComp, gFor, iAny, iRange1, iRange2, iRange3, iRangeW1, iRangeW2, eCallQ, oRgW2, oRgW, pInt1, iEnumQ, eDct, iTxt, eFld, eMake, gSetFld, eFldM, eTupV, putP, eLenSet, gFrz, Nat.reduceLT, oRg2, oRg1, oRg, tYesD, pIn, pNotIn, eSl, pNo, pSo, forL_nil, gApp, gParO, List.not_mem_nil, List.not_mem_nil, eq_self, not_true_eq_false, not_false_eq_true, ix30, ix31, ix32, Bool.and_self, and_self, and_true, true_and])
/-- the words and what follows the cell -/
inductive StF where
  | put (c d : Int) | move (z2 : Str) (c d e : Int) | sum (z2 : Str) (c d : Int) (z3 : Str) (e f : Int)
structure Stm where
  l : Int
  h : Int
  s : Int
  r : Int
  z : Str
  a : Int
  b : Int
  k : StF
def Stm.items (x : Stm) : List PV := match x.k with
  | .put c d => [.str "put", gt x.l x.h x.s x.r, .str x.z, .int x.a, .int x.b, .int c, .int d]
  | .move z2 c d e => [.str "move", gt x.l x.h x.s x.r, .str x.z, .int x.a, .int x.b, .str z2, .int c, .int d, .int e]
  | .sum z2 c d z3 e f => [.str "sum", gt x.l x.h x.s x.r, .str x.z, .int x.a, .int x.b, .str z2, .int c, .int d, .str z3, .int e, .int f]
def Stm.pv (x : Stm) : PV := .tup x.items
def StF.mir (n : Int) : StF → StF
  | .put c d => .put (-c) (d + c * (n - 1))
  | .move z2 c d e => .move z2 (-c) (d + c * (n - 1)) e
  | .sum z2 c d z3 e f => .sum z2 (-c) (d + c * (n - 1)) z3 (-e) (f + e * (n - 1))
def Stm.mir (n : Int) (x : Stm) : Stm := ⟨n - x.h, n - x.l, x.s, (n - 1 - x.r) % x.s, x.z, -x.a, x.b + x.a * (n - 1), x.k.mir n⟩
/-- a name that may be compared -/
structure Nm (z : Str) : Prop where
  arr : ArrN z
  so : PyData.strOk z = true
def Sm (x : Int) : Prop := x.natAbs < 2 ^ 300
def StF.ok : StF → Prop
  | .put c d => Sm c
  | .move z2 c d e => Nm z2 ∧ Sm c
  | .sum z2 c d z3 e f => Nm z2 ∧ Sm c ∧ Nm z3 ∧ Sm e
structure Stm.ok (n : Int) (x : Stm) : Prop where
  l0 : 0 ≤ x.l
  lh : x.l ≤ x.h
  hn : x.h ≤ n
  r0 : 0 ≤ x.r
  r1 : x.r < x.s
  sb : x.s < 2 ^ 200
  z : Nm x.z
  a : Sm x.a
  k : x.k.ok
theorem Sm.neg {x : Int} (h : Sm x) : Sm (-x) := by unfold Sm at *; omega
theorem Stm.ok.mir {n : Int} {x : Stm} (o : x.ok n) : (x.mir n).ok n := by
  have s0 : 0 < x.s := by have := o.r0; have := o.r1; omega
  refine ⟨?_, ?_, ?_, Int.emod_nonneg _ (by show x.s ≠ 0; omega), Int.emod_lt_of_pos _ s0, o.sb, o.z, o.a.neg, ?_⟩
  · show 0 ≤ n - x.h; have := o.hn; omega
  · show n - x.h ≤ n - x.l; have := o.lh; omega
  · show n - x.l ≤ n; have := o.l0; omega
  · have k := o.k
    obtain ⟨l, h, s, r, z, a, b, k'⟩ := x
    cases k' with
    | put c d => exact Sm.neg k
    | move z2 c d e => exact ⟨k.1, k.2.neg⟩
    | sum z2 c d z3 e f => exact ⟨k.1, k.2.1.neg, k.2.2.1, k.2.2.2.neg⟩
theorem Stm.mir_mir {n : Int} {x : Stm} (o : x.ok n) : (x.mir n).mir n = x := by
  have s0 : 0 < x.s := by have := o.r0; have := o.r1; omega
  have hr : (n - 1 - (n - 1 - x.r) % x.s) % x.s = x.r := by
    have e : (n - 1 - (n - 1 - x.r) % x.s) % x.s = x.r % x.s := by
      refine emod_of_dvd ?_
      have := Int.mul_ediv_add_emod (n - 1 - x.r) x.s
      exact ⟨(n - 1 - x.r) / x.s, by omega⟩
    rw [e]
    exact Int.emod_eq_of_lt o.r0 o.r1
  have pr : ∀ a b : Int, b + a * (n - 1) + -a * (n - 1) = b := fun a b => by rw [Int.neg_mul]; omega
  obtain ⟨l, h, s, r, z, a, b, k⟩ := x
  unfold Stm.mir
  simp only at hr ⊢
  rw [hr, pr, show n - (n - l) = l by omega, show n - (n - h) = h by omega, Int.neg_neg]
  congr 1
  cases k <;> simp only [StF.mir, pr, Int.neg_neg]
/-! ### data compared -/
def Dd (p : PV) (k : Nat) : Prop := ∃ d, toD p = some d ∧ d.canLay0 = true ∧ d.depth ≤ k
theorem Dd.mono {p : PV} {k k' : Nat} (h : Dd p k) (hk : k ≤ k') : Dd p k' := by
  obtain ⟨d, h1, h2, h3⟩ := h
  exact ⟨d, h1, h2, Nat.le_trans h3 hk⟩
theorem Dd.int (i : Int) : Dd (.int i) 0 := ⟨.int i, rfl, by simp [PyData.canLay0], by simp [PyData.depth]⟩
theorem Dd.str {x : Str} (h : PyData.strOk x = true) : Dd (.str x) 0 := ⟨.str x, rfl, by simp [PyData.canLay0, h], by simp [PyData.depth]⟩
theorem Dds.of {k : Nat} : ∀ {l : List PV}, (∀ p ∈ l, Dd p k) → ∃ ds, toDs l = some ds ∧ PyData.canLayAll0 ds = true ∧ PyData.depthAll ds ≤ k
  | [], _ => ⟨[], rfl, by simp [PyData.canLayAll0], by simp [PyData.depthAll]⟩
  | p :: r, h => by
    obtain ⟨d, h1, h2, h3⟩ := h p List.mem_cons_self
    obtain ⟨ds, g1, g2, g3⟩ := Dds.of (l := r) fun q hq => h q (List.mem_cons_of_mem _ hq)
    refine ⟨d :: ds, ?_, ?_, ?_⟩
    · unfold toDs; rw [h1, g1]
    · rw [PyData.canLayAll0, h2, g2]; rfl
    · rw [PyData.depthAll]; omega
theorem Dd.tup {l : List PV} {k : Nat} (h : ∀ p ∈ l, Dd p k) : Dd (.tup l) (k + 1) := by
  obtain ⟨ds, g1, g2, g3⟩ := Dds.of h
  exact ⟨.tuple ds, by unfold toD; rw [g1]; rfl, by rw [PyData.canLay0]; exact g2, by rw [PyData.depth]; omega⟩
theorem Dd.lst {l : List PV} {k : Nat} (h : ∀ p ∈ l, Dd p k) : Dd (.lst l) (k + 1) := by
  obtain ⟨ds, g1, g2, g3⟩ := Dds.of h
  exact ⟨.list ds, by unfold toD; rw [g1]; rfl, by rw [PyData.canLay0]; exact g2, by rw [PyData.depth]; omega⟩
theorem Dd.eq_self {p : PV} {k : Nat} (h : Dd p k) (hk : k ≤ 64) : pEqB p p = some true := by
  obtain ⟨d, h1, h2, h3⟩ := h
  have sh : SeqAt.shaped d = true := by
    unfold SeqAt.shaped
    rw [h2, decide_eq_true (Nat.le_trans h3 hk)]; rfl
  unfold pEqB
  simp only [h1, sh, Bool.and_self, if_true]
  rw [SeqAt.eqv_refl d h2]
end PM
/-! PWK2: what kernels.py answers of statements of all words and of kernels with barriers. -/
namespace PM
open PySem PySem.Spec PyProof.Rows L2 PL PN
local macro_rules | `(tactic| walk_at "ev") => `(tactic| try simp only [mOf, endF, start0, gSeq, gNop, gAsg, gRet, gRetO, gAsgO, gDrop, gIf, gOpt, gPar, gPar3, gAug, aName, asNil, asCons, aTup, aLst, setV, setO, eVar, eC, eBin, eUn, eTup, aNil, aCons, oLst, frz, eCall, oCall, avN, avK, permL, lNil, lPv, lSl, tOf, tTru, tNt, tAn, tOrr, eIf, eAn, eOr, eNt, eChain, eCallB, eIxM, gSetIx, getM, pTru, pAdd, pSub, pMul, pFdiv, pMod, pPow, pNeg, pLt, pLe, pGt, pGe, pIs, pIsNot, pAddI, pIx, pLen, pAbs, pMax2, pMin2, Res.bind_ok, Res.bind_ex, Res.bind_stuck, Res.fl_ok, Res.fl_ex, Res.fl_stuck, Res.opt_some, Res.opt_none, lowerA, PL.keyOf, getK, getAll, setAll, setK, distinct, List.map_cons, List.map_nil, List.length_cons, List.length_nil, List.replicate, List.cons_append, List.nil_append, List.append_nil, List.getElem?_cons_zero, List.getElem?_cons_succ, List.getElem?_nil, List.set_cons_zero, List.set_cons_succ, List.filterMap_cons, List.filterMap_nil, Option.bind_some, Option.map_some, Option.elim_some, if_true, if_false, Nat.reduceAdd, Nat.reduceSub, Nat.reduceEqDiff, Nat.reduceLeDiff, ↓reduceIte, Bool.false_eq_true, at0, at1, at2, at3, pEq, pNe, eqB_int, Option.some.injEq, decide_true, decide_false, not_true_eq_false, not_false_eq_true, Bool.and_true, ne_eq, reduceCtorEq, Bool.true_eq_false, Bool.not_true, Bool.not_false, frz, noEx, wipeS, wipeR, backS, backR, keepV, oComp, gFor, iAny, iRange1, iRange2, iRange3, iRangeW1, iRangeW2, eCallQ, oRgW2, oRgW, pInt1, iEnumQ, eDct, iTxt, eFld, eMake, gSetFld, eFldM, eTupV, putP, eLenSet, gFrz, Nat.reduceLT, oRg2, oRg1, oRg, tYesD, pIn, pNotIn, eSl, pNo, pSo, forL_nil, gApp, gParO, List.not_mem_nil, List.not_mem_nil])
local macro_rules | `(tactic| walk_at "evs") => `(tactic| simp only [*, mOf, endF, start0, gSeq, gNop, gAsg, gRet, gRetO, gAsgO, gDrop, gIf, gOpt, gPar, gPar3, gAug, aName, asNil, asCons, aTup, aLst, setV, setO, eVar, eC, eBin, eUn, eTup, aNil, aCons, oLst, frz, eCall, oCall, avN, avK, permL, lNil, lPv, lSl, tOf, tTru, tNt, tAn, tOrr, eIf, eAn, eOr, eNt, eChain, eCallB, eIxM, gSetIx, getM, pTru, pAdd, pSub, pMul, pFdiv, pMod, pPow, pNeg, pLt, pLe, pGt, pGe, pIs, pIsNot, pAddI, pIx, pLen, pAbs, pMax2, pMin2, Res.bind_ok, Res.bind_ex, Res.bind_stuck, Res.fl_ok, Res.fl_ex, Res.fl_stuck, Res.opt_some, Res.opt_none, lowerA, PL.keyOf, getK, getAll, setAll, setK, distinct, List.map_cons, List.map_nil, List.length_cons, List.length_nil, List.replicate, List.cons_append, List.nil_append, List.append_nil, List.getElem?_cons_zero, List.getElem?_cons_succ, List.getElem?_nil, List.set_cons_zero, List.set_cons_succ, List.filterMap_cons, List.filterMap_nil, Option.bind_some, Option.map_some, Option.elim_some, if_true, if_false, Nat.reduceAdd, Nat.reduceSub, Nat.reduceEqDiff, Nat.reduceLeDiff, ↓reduceIte, Bool.false_eq_true, at0, at1, at2, at3, pEq, pNe, eqB_int, Option.some.injEq, decide_true, decide_false, not_true_eq_false, not_false_eq_true, Bool.and_true, ne_eq, reduceCtorEq, Bool.true_eq_false, Bool.not_true, Bool.not_false, frz, noEx, wipeS, wipeR, backS, backR, keepV, oComp, gFor, iAny, iRange1, iRange2, iRange3, iRangeW1, iRangeW2, eCallQ, oRgW2, oRgW, pInt1, iEnumQ, eDct, iTxt, eFld, eMake, gSetFld, eFldM, eTupV, putP, eLenSet, gFrz, Nat.reduceLT, oRg2, oRg1, oRg, tYesD, pIn, pNotIn, eSl, pNo, pSo, forL_nil, gApp, gParO, List.not_mem_nil, List.not_mem_nil, eq_self, not_true_eq_false, not_false_eq_true, ix30, ix31, ix32, Bool.and_self, and_self, and_true, true_and])
theorem e_is_put_stm (l h s r a b c d n : Int) (z : Str) (h0 : ArrN z) (hg : isGuard l h s r = true) (hn : h ≤ n) : m_is_statement [.val (.tup [.str "put", gt l h s r, .str z, .int a, .int b, .int c, .int d]), .val (.int n)] [] = .ok (.bl true) [] := by
  have c0 := e_is_array h0
  have g := e_is_guard l h s r
  rw [hg] at g
  have dn : decide (h ≤ n) = true := decide_eq_true hn
  have ec := compL_map (vs := [2]) (a := l_is_statement_1c) (ft := l_is_statement_1d) (fe := l_is_statement_1e) (s := ⟨[some (.val (.tup [.str "put", gt l h s r, .str z, .int a, .int b, .int c, .int d])), some (.val (.int n)), none], []⟩)
    (fun _ => some (.bl true)) [.int 2] [] (by simp) (by
      intro p hp
      simp only [List.mem_cons, List.not_mem_nil, or_false] at hp
      rcases hp with rfl
      · refine ⟨_, rfl, .inl ⟨_, .bl true, ⟨[some (.val (.tup [.str "put", gt l h s r, .str z, .int a, .int b, .int c, .int d])), some (.val (.int n)), some (.val (.int 2))], []⟩, rfl, ?_, rfl, rfl⟩⟩
        have ix : eBin pIx (eVar 0) (eVar 2) ⟨[some (.val (.tup [.str "put", gt l h s r, .str z, .int a, .int b, .int c, .int d])), some (.val (.int n)), some (.val (.int 2))], []⟩ = .ok (.str z) ⟨[some (.val (.tup [.str "put", gt l h s r, .str z, .int a, .int b, .int c, .int d])), some (.val (.int n)), some (.val (.int 2))], []⟩ := rfl
        show l_is_statement_1e ⟨[some (.val (.tup [.str "put", gt l h s r, .str z, .int a, .int b, .int c, .int d])), some (.val (.int n)), some (.val (.int 2))], []⟩ = _
        unfold l_is_statement_1e
        simp only [eCall, avN, lPv, lNil, ix, Res.bind_ok, List.length_cons, List.length_nil, Nat.reduceAdd, if_true, lowerA, distinct, getAll, setAll, c0]
      )
  have ef : ([.int 2] : List PV).filterMap (fun _ => some (PV.bl true)) = [PV.bl true] := rfl
  rw [ef, List.nil_append] at ec
  have e0 : eBin pIx (eVar 0) (eC (.int 0)) ⟨[some (.val (.tup [.str "put", gt l h s r, .str z, .int a, .int b, .int c, .int d])), some (.val (.int n)), none], []⟩ = .ok (.str "put") ⟨[some (.val (.tup [.str "put", gt l h s r, .str z, .int a, .int b, .int c, .int d])), some (.val (.int n)), none], []⟩ := rfl
  have t1 : q_is_statement_1 ⟨[some (.val (.tup [.str "put", gt l h s r, .str z, .int a, .int b, .int c, .int d])), some (.val (.int n)), none], []⟩ = .nx ⟨[some (.val (.tup [.str "put", gt l h s r, .str z, .int a, .int b, .int c, .int d])), some (.val (.int n)), none], []⟩ := by
    have en := eqB_int 7 7
    rw [beq_self_eq_true] at en
    have ed : eDct [("put", .int 7), ("move", .int 9), ("sum", .int 11)] (eBin pIx (eVar 0) (eC (.int 0))) ⟨[some (.val (.tup [.str "put", gt l h s r, .str z, .int a, .int b, .int c, .int d])), some (.val (.int n)), none], []⟩ = .ok (.int 7) ⟨[some (.val (.tup [.str "put", gt l h s r, .str z, .int a, .int b, .int c, .int d])), some (.val (.int n)), none], []⟩ := rfl
    have el : eCallB pLen (aCons (eVar 0) aNil) ⟨[some (.val (.tup [.str "put", gt l h s r, .str z, .int a, .int b, .int c, .int d])), some (.val (.int n)), none], []⟩ = .ok (.int 7) ⟨[some (.val (.tup [.str "put", gt l h s r, .str z, .int a, .int b, .int c, .int d])), some (.val (.int n)), none], []⟩ := rfl
    have e5 : eBin pNe (eDct [("put", .int 7), ("move", .int 9), ("sum", .int 11)] (eBin pIx (eVar 0) (eC (.int 0)))) (eCallB pLen (aCons (eVar 0) aNil)) ⟨[some (.val (.tup [.str "put", gt l h s r, .str z, .int a, .int b, .int c, .int d])), some (.val (.int n)), none], []⟩ = .ok (.bl false) ⟨[some (.val (.tup [.str "put", gt l h s r, .str z, .int a, .int b, .int c, .int d])), some (.val (.int n)), none], []⟩ := by
      show Res.opt ⟨[some (.val (.tup [.str "put", gt l h s r, .str z, .int a, .int b, .int c, .int d])), some (.val (.int n)), none], []⟩ (pNe (.int 7) (.int 7)) = _
      unfold pNe
      rw [en]; rfl
    unfold q_is_statement_1
    simp only [gIf, tOf, e5, Res.bind_ok, Res.fl, Bool.false_eq_true, if_false]
    rfl
  have t2 : q_is_statement_2 ⟨[some (.val (.tup [.str "put", gt l h s r, .str z, .int a, .int b, .int c, .int d])), some (.val (.int n)), none], []⟩ = .nx ⟨[some (.val (.tup [.str "put", gt l h s r, .str z, .int a, .int b, .int c, .int d])), some (.val (.int n)), none], []⟩ := by
    have ed : iAny (eDct [("put", .tup [.int 2]), ("move", .tup [.int 2, .int 5]), ("sum", .tup [.int 2, .int 5, .int 8])] (eBin pIx (eVar 0) (eC (.int 0)))) ⟨[some (.val (.tup [.str "put", gt l h s r, .str z, .int a, .int b, .int c, .int d])), some (.val (.int n)), none], []⟩ = .ok [.int 2] ⟨[some (.val (.tup [.str "put", gt l h s r, .str z, .int a, .int b, .int c, .int d])), some (.val (.int n)), none], []⟩ := rfl
    have eo : frz (oComp [2] (iAny (eDct [("put", .tup [.int 2]), ("move", .tup [.int 2, .int 5]), ("sum", .tup [.int 2, .int 5, .int 8])] (eBin pIx (eVar 0) (eC (.int 0))))) l_is_statement_1c l_is_statement_1d l_is_statement_1e) ⟨[some (.val (.tup [.str "put", gt l h s r, .str z, .int a, .int b, .int c, .int d])), some (.val (.int n)), none], []⟩ = .ok (.lst [.bl true]) ⟨[some (.val (.tup [.str "put", gt l h s r, .str z, .int a, .int b, .int c, .int d])), some (.val (.int n)), none], []⟩ := by
      unfold frz oComp
      rw [ed]
      simp only [Res.bind_ok]
      rw [show wipeS [2] ⟨[some (.val (.tup [.str "put", gt l h s r, .str z, .int a, .int b, .int c, .int d])), some (.val (.int n)), none], []⟩ = ⟨[some (.val (.tup [.str "put", gt l h s r, .str z, .int a, .int b, .int c, .int d])), some (.val (.int n)), none], []⟩ from rfl]
      have e' : compL [2] l_is_statement_1c l_is_statement_1d l_is_statement_1e [.int 2] [] ⟨[some (.val (.tup [.str "put", gt l h s r, .str z, .int a, .int b, .int c, .int d])), some (.val (.int n)), none], []⟩ = .ok [.bl true] ⟨[some (.val (.tup [.str "put", gt l h s r, .str z, .int a, .int b, .int c, .int d])), some (.val (.int n)), none], []⟩ := ec
      rw [e']
      rfl
    unfold q_is_statement_2
    simp only [gIf, tNt, tTru, eCallB, aCons, aNil, eo, Res.bind_ok]
    rfl
  have t3 : q_is_statement_3 ⟨[some (.val (.tup [.str "put", gt l h s r, .str z, .int a, .int b, .int c, .int d])), some (.val (.int n)), none], []⟩ = .rt (.bl true) ⟨[some (.val (.tup [.str "put", gt l h s r, .str z, .int a, .int b, .int c, .int d])), some (.val (.int n)), none], []⟩ := by
    have ix : eBin pIx (eVar 0) (eC (.int 1)) ⟨[some (.val (.tup [.str "put", gt l h s r, .str z, .int a, .int b, .int c, .int d])), some (.val (.int n)), none], []⟩ = .ok (gt l h s r) ⟨[some (.val (.tup [.str "put", gt l h s r, .str z, .int a, .int b, .int c, .int d])), some (.val (.int n)), none], []⟩ := rfl
    have ig : eCall PM.m_is_guard (avN 1 (lPv (eBin pIx (eVar 0) (eC (.int 1))) lNil)) ⟨[some (.val (.tup [.str "put", gt l h s r, .str z, .int a, .int b, .int c, .int d])), some (.val (.int n)), none], []⟩ = .ok (.bl true) ⟨[some (.val (.tup [.str "put", gt l h s r, .str z, .int a, .int b, .int c, .int d])), some (.val (.int n)), none], []⟩ := by
      simp only [eCall, avN, lPv, lNil, ix, Res.bind_ok, List.length_cons, List.length_nil, Nat.reduceAdd, if_true, lowerA, distinct, getAll, setAll, g]
    have il : eBin pLe (eBin pIx (eBin pIx (eVar 0) (eC (.int 1))) (eC (.int 1))) (eVar 1) ⟨[some (.val (.tup [.str "put", gt l h s r, .str z, .int a, .int b, .int c, .int d])), some (.val (.int n)), none], []⟩ = .ok (.bl true) ⟨[some (.val (.tup [.str "put", gt l h s r, .str z, .int a, .int b, .int c, .int d])), some (.val (.int n)), none], []⟩ := by
      show Res.ok (PV.bl (decide (h ≤ n))) _ = _
      rw [dn]
    unfold q_is_statement_3 gRet eAn
    rw [ig]
    simp only [Res.bind_ok, pTru, il]
    rfl
  unfold m_is_statement
  rw [g_is_statement_eq]
  simp only [mOf, start0, List.map_cons, List.map_nil, List.length_cons, List.length_nil, Nat.reduceAdd, Nat.reduceSub, List.replicate, List.cons_append, List.nil_append]
  rw [seq_nx t1, seq_nx t2, seq_rt t3]
  rfl
theorem e_is_move_stm (l h s r a b c d e n : Int) (z z2 : Str) (h0 : ArrN z) (h1 : ArrN z2) (hg : isGuard l h s r = true) (hn : h ≤ n) : m_is_statement [.val (.tup [.str "move", gt l h s r, .str z, .int a, .int b, .str z2, .int c, .int d, .int e]), .val (.int n)] [] = .ok (.bl true) [] := by
  have c0 := e_is_array h0
  have c1 := e_is_array h1
  have g := e_is_guard l h s r
  rw [hg] at g
  have dn : decide (h ≤ n) = true := decide_eq_true hn
  have ec := compL_map (vs := [2]) (a := l_is_statement_1c) (ft := l_is_statement_1d) (fe := l_is_statement_1e) (s := ⟨[some (.val (.tup [.str "move", gt l h s r, .str z, .int a, .int b, .str z2, .int c, .int d, .int e])), some (.val (.int n)), none], []⟩)
    (fun _ => some (.bl true)) [.int 2, .int 5] [] (by simp) (by
      intro p hp
      simp only [List.mem_cons, List.not_mem_nil, or_false] at hp
      rcases hp with rfl | rfl
      · refine ⟨_, rfl, .inl ⟨_, .bl true, ⟨[some (.val (.tup [.str "move", gt l h s r, .str z, .int a, .int b, .str z2, .int c, .int d, .int e])), some (.val (.int n)), some (.val (.int 2))], []⟩, rfl, ?_, rfl, rfl⟩⟩
        have ix : eBin pIx (eVar 0) (eVar 2) ⟨[some (.val (.tup [.str "move", gt l h s r, .str z, .int a, .int b, .str z2, .int c, .int d, .int e])), some (.val (.int n)), some (.val (.int 2))], []⟩ = .ok (.str z) ⟨[some (.val (.tup [.str "move", gt l h s r, .str z, .int a, .int b, .str z2, .int c, .int d, .int e])), some (.val (.int n)), some (.val (.int 2))], []⟩ := rfl
        show l_is_statement_1e ⟨[some (.val (.tup [.str "move", gt l h s r, .str z, .int a, .int b, .str z2, .int c, .int d, .int e])), some (.val (.int n)), some (.val (.int 2))], []⟩ = _
        unfold l_is_statement_1e
        simp only [eCall, avN, lPv, lNil, ix, Res.bind_ok, List.length_cons, List.length_nil, Nat.reduceAdd, if_true, lowerA, distinct, getAll, setAll, c0]
      · refine ⟨_, rfl, .inl ⟨_, .bl true, ⟨[some (.val (.tup [.str "move", gt l h s r, .str z, .int a, .int b, .str z2, .int c, .int d, .int e])), some (.val (.int n)), some (.val (.int 5))], []⟩, rfl, ?_, rfl, rfl⟩⟩
        have ix : eBin pIx (eVar 0) (eVar 2) ⟨[some (.val (.tup [.str "move", gt l h s r, .str z, .int a, .int b, .str z2, .int c, .int d, .int e])), some (.val (.int n)), some (.val (.int 5))], []⟩ = .ok (.str z2) ⟨[some (.val (.tup [.str "move", gt l h s r, .str z, .int a, .int b, .str z2, .int c, .int d, .int e])), some (.val (.int n)), some (.val (.int 5))], []⟩ := rfl
        show l_is_statement_1e ⟨[some (.val (.tup [.str "move", gt l h s r, .str z, .int a, .int b, .str z2, .int c, .int d, .int e])), some (.val (.int n)), some (.val (.int 5))], []⟩ = _
        unfold l_is_statement_1e
        simp only [eCall, avN, lPv, lNil, ix, Res.bind_ok, List.length_cons, List.length_nil, Nat.reduceAdd, if_true, lowerA, distinct, getAll, setAll, c1]
      )
  have ef : ([.int 2, .int 5] : List PV).filterMap (fun _ => some (PV.bl true)) = [PV.bl true, PV.bl true] := rfl
  rw [ef, List.nil_append] at ec
  have e0 : eBin pIx (eVar 0) (eC (.int 0)) ⟨[some (.val (.tup [.str "move", gt l h s r, .str z, .int a, .int b, .str z2, .int c, .int d, .int e])), some (.val (.int n)), none], []⟩ = .ok (.str "move") ⟨[some (.val (.tup [.str "move", gt l h s r, .str z, .int a, .int b, .str z2, .int c, .int d, .int e])), some (.val (.int n)), none], []⟩ := rfl
  have t1 : q_is_statement_1 ⟨[some (.val (.tup [.str "move", gt l h s r, .str z, .int a, .int b, .str z2, .int c, .int d, .int e])), some (.val (.int n)), none], []⟩ = .nx ⟨[some (.val (.tup [.str "move", gt l h s r, .str z, .int a, .int b, .str z2, .int c, .int d, .int e])), some (.val (.int n)), none], []⟩ := by
    have en := eqB_int 9 9
    rw [beq_self_eq_true] at en
    have ed : eDct [("put", .int 7), ("move", .int 9), ("sum", .int 11)] (eBin pIx (eVar 0) (eC (.int 0))) ⟨[some (.val (.tup [.str "move", gt l h s r, .str z, .int a, .int b, .str z2, .int c, .int d, .int e])), some (.val (.int n)), none], []⟩ = .ok (.int 9) ⟨[some (.val (.tup [.str "move", gt l h s r, .str z, .int a, .int b, .str z2, .int c, .int d, .int e])), some (.val (.int n)), none], []⟩ := rfl
    have el : eCallB pLen (aCons (eVar 0) aNil) ⟨[some (.val (.tup [.str "move", gt l h s r, .str z, .int a, .int b, .str z2, .int c, .int d, .int e])), some (.val (.int n)), none], []⟩ = .ok (.int 9) ⟨[some (.val (.tup [.str "move", gt l h s r, .str z, .int a, .int b, .str z2, .int c, .int d, .int e])), some (.val (.int n)), none], []⟩ := rfl
    have e5 : eBin pNe (eDct [("put", .int 7), ("move", .int 9), ("sum", .int 11)] (eBin pIx (eVar 0) (eC (.int 0)))) (eCallB pLen (aCons (eVar 0) aNil)) ⟨[some (.val (.tup [.str "move", gt l h s r, .str z, .int a, .int b, .str z2, .int c, .int d, .int e])), some (.val (.int n)), none], []⟩ = .ok (.bl false) ⟨[some (.val (.tup [.str "move", gt l h s r, .str z, .int a, .int b, .str z2, .int c, .int d, .int e])), some (.val (.int n)), none], []⟩ := by
      show Res.opt ⟨[some (.val (.tup [.str "move", gt l h s r, .str z, .int a, .int b, .str z2, .int c, .int d, .int e])), some (.val (.int n)), none], []⟩ (pNe (.int 9) (.int 9)) = _
      unfold pNe
      rw [en]; rfl
    unfold q_is_statement_1
    simp only [gIf, tOf, e5, Res.bind_ok, Res.fl, Bool.false_eq_true, if_false]
    rfl
  have t2 : q_is_statement_2 ⟨[some (.val (.tup [.str "move", gt l h s r, .str z, .int a, .int b, .str z2, .int c, .int d, .int e])), some (.val (.int n)), none], []⟩ = .nx ⟨[some (.val (.tup [.str "move", gt l h s r, .str z, .int a, .int b, .str z2, .int c, .int d, .int e])), some (.val (.int n)), none], []⟩ := by
    have ed : iAny (eDct [("put", .tup [.int 2]), ("move", .tup [.int 2, .int 5]), ("sum", .tup [.int 2, .int 5, .int 8])] (eBin pIx (eVar 0) (eC (.int 0)))) ⟨[some (.val (.tup [.str "move", gt l h s r, .str z, .int a, .int b, .str z2, .int c, .int d, .int e])), some (.val (.int n)), none], []⟩ = .ok [.int 2, .int 5] ⟨[some (.val (.tup [.str "move", gt l h s r, .str z, .int a, .int b, .str z2, .int c, .int d, .int e])), some (.val (.int n)), none], []⟩ := rfl
    have eo : frz (oComp [2] (iAny (eDct [("put", .tup [.int 2]), ("move", .tup [.int 2, .int 5]), ("sum", .tup [.int 2, .int 5, .int 8])] (eBin pIx (eVar 0) (eC (.int 0))))) l_is_statement_1c l_is_statement_1d l_is_statement_1e) ⟨[some (.val (.tup [.str "move", gt l h s r, .str z, .int a, .int b, .str z2, .int c, .int d, .int e])), some (.val (.int n)), none], []⟩ = .ok (.lst [.bl true, .bl true]) ⟨[some (.val (.tup [.str "move", gt l h s r, .str z, .int a, .int b, .str z2, .int c, .int d, .int e])), some (.val (.int n)), none], []⟩ := by
      unfold frz oComp
      rw [ed]
      simp only [Res.bind_ok]
      rw [show wipeS [2] ⟨[some (.val (.tup [.str "move", gt l h s r, .str z, .int a, .int b, .str z2, .int c, .int d, .int e])), some (.val (.int n)), none], []⟩ = ⟨[some (.val (.tup [.str "move", gt l h s r, .str z, .int a, .int b, .str z2, .int c, .int d, .int e])), some (.val (.int n)), none], []⟩ from rfl]
      have e' : compL [2] l_is_statement_1c l_is_statement_1d l_is_statement_1e [.int 2, .int 5] [] ⟨[some (.val (.tup [.str "move", gt l h s r, .str z, .int a, .int b, .str z2, .int c, .int d, .int e])), some (.val (.int n)), none], []⟩ = .ok [.bl true, .bl true] ⟨[some (.val (.tup [.str "move", gt l h s r, .str z, .int a, .int b, .str z2, .int c, .int d, .int e])), some (.val (.int n)), none], []⟩ := ec
      rw [e']
      rfl
    unfold q_is_statement_2
    simp only [gIf, tNt, tTru, eCallB, aCons, aNil, eo, Res.bind_ok]
    rfl
  have t3 : q_is_statement_3 ⟨[some (.val (.tup [.str "move", gt l h s r, .str z, .int a, .int b, .str z2, .int c, .int d, .int e])), some (.val (.int n)), none], []⟩ = .rt (.bl true) ⟨[some (.val (.tup [.str "move", gt l h s r, .str z, .int a, .int b, .str z2, .int c, .int d, .int e])), some (.val (.int n)), none], []⟩ := by
    have ix : eBin pIx (eVar 0) (eC (.int 1)) ⟨[some (.val (.tup [.str "move", gt l h s r, .str z, .int a, .int b, .str z2, .int c, .int d, .int e])), some (.val (.int n)), none], []⟩ = .ok (gt l h s r) ⟨[some (.val (.tup [.str "move", gt l h s r, .str z, .int a, .int b, .str z2, .int c, .int d, .int e])), some (.val (.int n)), none], []⟩ := rfl
    have ig : eCall PM.m_is_guard (avN 1 (lPv (eBin pIx (eVar 0) (eC (.int 1))) lNil)) ⟨[some (.val (.tup [.str "move", gt l h s r, .str z, .int a, .int b, .str z2, .int c, .int d, .int e])), some (.val (.int n)), none], []⟩ = .ok (.bl true) ⟨[some (.val (.tup [.str "move", gt l h s r, .str z, .int a, .int b, .str z2, .int c, .int d, .int e])), some (.val (.int n)), none], []⟩ := by
      simp only [eCall, avN, lPv, lNil, ix, Res.bind_ok, List.length_cons, List.length_nil, Nat.reduceAdd, if_true, lowerA, distinct, getAll, setAll, g]
    have il : eBin pLe (eBin pIx (eBin pIx (eVar 0) (eC (.int 1))) (eC (.int 1))) (eVar 1) ⟨[some (.val (.tup [.str "move", gt l h s r, .str z, .int a, .int b, .str z2, .int c, .int d, .int e])), some (.val (.int n)), none], []⟩ = .ok (.bl true) ⟨[some (.val (.tup [.str "move", gt l h s r, .str z, .int a, .int b, .str z2, .int c, .int d, .int e])), some (.val (.int n)), none], []⟩ := by
      show Res.ok (PV.bl (decide (h ≤ n))) _ = _
      rw [dn]
    unfold q_is_statement_3 gRet eAn
    rw [ig]
    simp only [Res.bind_ok, pTru, il]
    rfl
  unfold m_is_statement
  rw [g_is_statement_eq]
  simp only [mOf, start0, List.map_cons, List.map_nil, List.length_cons, List.length_nil, Nat.reduceAdd, Nat.reduceSub, List.replicate, List.cons_append, List.nil_append]
  rw [seq_nx t1, seq_nx t2, seq_rt t3]
  rfl
theorem e_is_sum_stm (l h s r a b c d e f n : Int) (z z2 z3 : Str) (h0 : ArrN z) (h1 : ArrN z2) (h2 : ArrN z3) (hg : isGuard l h s r = true) (hn : h ≤ n) : m_is_statement [.val (.tup [.str "sum", gt l h s r, .str z, .int a, .int b, .str z2, .int c, .int d, .str z3, .int e, .int f]), .val (.int n)] [] = .ok (.bl true) [] := by
  have c0 := e_is_array h0
  have c1 := e_is_array h1
  have c2 := e_is_array h2
  have g := e_is_guard l h s r
  rw [hg] at g
  have dn : decide (h ≤ n) = true := decide_eq_true hn
  have ec := compL_map (vs := [2]) (a := l_is_statement_1c) (ft := l_is_statement_1d) (fe := l_is_statement_1e) (s := ⟨[some (.val (.tup [.str "sum", gt l h s r, .str z, .int a, .int b, .str z2, .int c, .int d, .str z3, .int e, .int f])), some (.val (.int n)), none], []⟩)
    (fun _ => some (.bl true)) [.int 2, .int 5, .int 8] [] (by simp) (by
      intro p hp
      simp only [List.mem_cons, List.not_mem_nil, or_false] at hp
      rcases hp with rfl | rfl | rfl
      · refine ⟨_, rfl, .inl ⟨_, .bl true, ⟨[some (.val (.tup [.str "sum", gt l h s r, .str z, .int a, .int b, .str z2, .int c, .int d, .str z3, .int e, .int f])), some (.val (.int n)), some (.val (.int 2))], []⟩, rfl, ?_, rfl, rfl⟩⟩
        have ix : eBin pIx (eVar 0) (eVar 2) ⟨[some (.val (.tup [.str "sum", gt l h s r, .str z, .int a, .int b, .str z2, .int c, .int d, .str z3, .int e, .int f])), some (.val (.int n)), some (.val (.int 2))], []⟩ = .ok (.str z) ⟨[some (.val (.tup [.str "sum", gt l h s r, .str z, .int a, .int b, .str z2, .int c, .int d, .str z3, .int e, .int f])), some (.val (.int n)), some (.val (.int 2))], []⟩ := rfl
        show l_is_statement_1e ⟨[some (.val (.tup [.str "sum", gt l h s r, .str z, .int a, .int b, .str z2, .int c, .int d, .str z3, .int e, .int f])), some (.val (.int n)), some (.val (.int 2))], []⟩ = _
        unfold l_is_statement_1e
        simp only [eCall, avN, lPv, lNil, ix, Res.bind_ok, List.length_cons, List.length_nil, Nat.reduceAdd, if_true, lowerA, distinct, getAll, setAll, c0]
      · refine ⟨_, rfl, .inl ⟨_, .bl true, ⟨[some (.val (.tup [.str "sum", gt l h s r, .str z, .int a, .int b, .str z2, .int c, .int d, .str z3, .int e, .int f])), some (.val (.int n)), some (.val (.int 5))], []⟩, rfl, ?_, rfl, rfl⟩⟩
        have ix : eBin pIx (eVar 0) (eVar 2) ⟨[some (.val (.tup [.str "sum", gt l h s r, .str z, .int a, .int b, .str z2, .int c, .int d, .str z3, .int e, .int f])), some (.val (.int n)), some (.val (.int 5))], []⟩ = .ok (.str z2) ⟨[some (.val (.tup [.str "sum", gt l h s r, .str z, .int a, .int b, .str z2, .int c, .int d, .str z3, .int e, .int f])), some (.val (.int n)), some (.val (.int 5))], []⟩ := rfl
        show l_is_statement_1e ⟨[some (.val (.tup [.str "sum", gt l h s r, .str z, .int a, .int b, .str z2, .int c, .int d, .str z3, .int e, .int f])), some (.val (.int n)), some (.val (.int 5))], []⟩ = _
        unfold l_is_statement_1e
        simp only [eCall, avN, lPv, lNil, ix, Res.bind_ok, List.length_cons, List.length_nil, Nat.reduceAdd, if_true, lowerA, distinct, getAll, setAll, c1]
      · refine ⟨_, rfl, .inl ⟨_, .bl true, ⟨[some (.val (.tup [.str "sum", gt l h s r, .str z, .int a, .int b, .str z2, .int c, .int d, .str z3, .int e, .int f])), some (.val (.int n)), some (.val (.int 8))], []⟩, rfl, ?_, rfl, rfl⟩⟩
        have ix : eBin pIx (eVar 0) (eVar 2) ⟨[some (.val (.tup [.str "sum", gt l h s r, .str z, .int a, .int b, .str z2, .int c, .int d, .str z3, .int e, .int f])), some (.val (.int n)), some (.val (.int 8))], []⟩ = .ok (.str z3) ⟨[some (.val (.tup [.str "sum", gt l h s r, .str z, .int a, .int b, .str z2, .int c, .int d, .str z3, .int e, .int f])), some (.val (.int n)), some (.val (.int 8))], []⟩ := rfl
        show l_is_statement_1e ⟨[some (.val (.tup [.str "sum", gt l h s r, .str z, .int a, .int b, .str z2, .int c, .int d, .str z3, .int e, .int f])), some (.val (.int n)), some (.val (.int 8))], []⟩ = _
        unfold l_is_statement_1e
        simp only [eCall, avN, lPv, lNil, ix, Res.bind_ok, List.length_cons, List.length_nil, Nat.reduceAdd, if_true, lowerA, distinct, getAll, setAll, c2]
      )
  have ef : ([.int 2, .int 5, .int 8] : List PV).filterMap (fun _ => some (PV.bl true)) = [PV.bl true, PV.bl true, PV.bl true] := rfl
  rw [ef, List.nil_append] at ec
  have e0 : eBin pIx (eVar 0) (eC (.int 0)) ⟨[some (.val (.tup [.str "sum", gt l h s r, .str z, .int a, .int b, .str z2, .int c, .int d, .str z3, .int e, .int f])), some (.val (.int n)), none], []⟩ = .ok (.str "sum") ⟨[some (.val (.tup [.str "sum", gt l h s r, .str z, .int a, .int b, .str z2, .int c, .int d, .str z3, .int e, .int f])), some (.val (.int n)), none], []⟩ := rfl
  have t1 : q_is_statement_1 ⟨[some (.val (.tup [.str "sum", gt l h s r, .str z, .int a, .int b, .str z2, .int c, .int d, .str z3, .int e, .int f])), some (.val (.int n)), none], []⟩ = .nx ⟨[some (.val (.tup [.str "sum", gt l h s r, .str z, .int a, .int b, .str z2, .int c, .int d, .str z3, .int e, .int f])), some (.val (.int n)), none], []⟩ := by
    have en := eqB_int 11 11
    rw [beq_self_eq_true] at en
    have ed : eDct [("put", .int 7), ("move", .int 9), ("sum", .int 11)] (eBin pIx (eVar 0) (eC (.int 0))) ⟨[some (.val (.tup [.str "sum", gt l h s r, .str z, .int a, .int b, .str z2, .int c, .int d, .str z3, .int e, .int f])), some (.val (.int n)), none], []⟩ = .ok (.int 11) ⟨[some (.val (.tup [.str "sum", gt l h s r, .str z, .int a, .int b, .str z2, .int c, .int d, .str z3, .int e, .int f])), some (.val (.int n)), none], []⟩ := rfl
    have el : eCallB pLen (aCons (eVar 0) aNil) ⟨[some (.val (.tup [.str "sum", gt l h s r, .str z, .int a, .int b, .str z2, .int c, .int d, .str z3, .int e, .int f])), some (.val (.int n)), none], []⟩ = .ok (.int 11) ⟨[some (.val (.tup [.str "sum", gt l h s r, .str z, .int a, .int b, .str z2, .int c, .int d, .str z3, .int e, .int f])), some (.val (.int n)), none], []⟩ := rfl
    have e5 : eBin pNe (eDct [("put", .int 7), ("move", .int 9), ("sum", .int 11)] (eBin pIx (eVar 0) (eC (.int 0)))) (eCallB pLen (aCons (eVar 0) aNil)) ⟨[some (.val (.tup [.str "sum", gt l h s r, .str z, .int a, .int b, .str z2, .int c, .int d, .str z3, .int e, .int f])), some (.val (.int n)), none], []⟩ = .ok (.bl false) ⟨[some (.val (.tup [.str "sum", gt l h s r, .str z, .int a, .int b, .str z2, .int c, .int d, .str z3, .int e, .int f])), some (.val (.int n)), none], []⟩ := by
      show Res.opt ⟨[some (.val (.tup [.str "sum", gt l h s r, .str z, .int a, .int b, .str z2, .int c, .int d, .str z3, .int e, .int f])), some (.val (.int n)), none], []⟩ (pNe (.int 11) (.int 11)) = _
      unfold pNe
      rw [en]; rfl
    unfold q_is_statement_1
    simp only [gIf, tOf, e5, Res.bind_ok, Res.fl, Bool.false_eq_true, if_false]
    rfl
  have t2 : q_is_statement_2 ⟨[some (.val (.tup [.str "sum", gt l h s r, .str z, .int a, .int b, .str z2, .int c, .int d, .str z3, .int e, .int f])), some (.val (.int n)), none], []⟩ = .nx ⟨[some (.val (.tup [.str "sum", gt l h s r, .str z, .int a, .int b, .str z2, .int c, .int d, .str z3, .int e, .int f])), some (.val (.int n)), none], []⟩ := by
    have ed : iAny (eDct [("put", .tup [.int 2]), ("move", .tup [.int 2, .int 5]), ("sum", .tup [.int 2, .int 5, .int 8])] (eBin pIx (eVar 0) (eC (.int 0)))) ⟨[some (.val (.tup [.str "sum", gt l h s r, .str z, .int a, .int b, .str z2, .int c, .int d, .str z3, .int e, .int f])), some (.val (.int n)), none], []⟩ = .ok [.int 2, .int 5, .int 8] ⟨[some (.val (.tup [.str "sum", gt l h s r, .str z, .int a, .int b, .str z2, .int c, .int d, .str z3, .int e, .int f])), some (.val (.int n)), none], []⟩ := rfl
    have eo : frz (oComp [2] (iAny (eDct [("put", .tup [.int 2]), ("move", .tup [.int 2, .int 5]), ("sum", .tup [.int 2, .int 5, .int 8])] (eBin pIx (eVar 0) (eC (.int 0))))) l_is_statement_1c l_is_statement_1d l_is_statement_1e) ⟨[some (.val (.tup [.str "sum", gt l h s r, .str z, .int a, .int b, .str z2, .int c, .int d, .str z3, .int e, .int f])), some (.val (.int n)), none], []⟩ = .ok (.lst [.bl true, .bl true, .bl true]) ⟨[some (.val (.tup [.str "sum", gt l h s r, .str z, .int a, .int b, .str z2, .int c, .int d, .str z3, .int e, .int f])), some (.val (.int n)), none], []⟩ := by
      unfold frz oComp
      rw [ed]
      simp only [Res.bind_ok]
      rw [show wipeS [2] ⟨[some (.val (.tup [.str "sum", gt l h s r, .str z, .int a, .int b, .str z2, .int c, .int d, .str z3, .int e, .int f])), some (.val (.int n)), none], []⟩ = ⟨[some (.val (.tup [.str "sum", gt l h s r, .str z, .int a, .int b, .str z2, .int c, .int d, .str z3, .int e, .int f])), some (.val (.int n)), none], []⟩ from rfl]
      have e' : compL [2] l_is_statement_1c l_is_statement_1d l_is_statement_1e [.int 2, .int 5, .int 8] [] ⟨[some (.val (.tup [.str "sum", gt l h s r, .str z, .int a, .int b, .str z2, .int c, .int d, .str z3, .int e, .int f])), some (.val (.int n)), none], []⟩ = .ok [.bl true, .bl true, .bl true] ⟨[some (.val (.tup [.str "sum", gt l h s r, .str z, .int a, .int b, .str z2, .int c, .int d, .str z3, .int e, .int f])), some (.val (.int n)), none], []⟩ := ec
      rw [e']
      rfl
    unfold q_is_statement_2
    simp only [gIf, tNt, tTru, eCallB, aCons, aNil, eo, Res.bind_ok]
    rfl
  have t3 : q_is_statement_3 ⟨[some (.val (.tup [.str "sum", gt l h s r, .str z, .int a, .int b, .str z2, .int c, .int d, .str z3, .int e, .int f])), some (.val (.int n)), none], []⟩ = .rt (.bl true) ⟨[some (.val (.tup [.str "sum", gt l h s r, .str z, .int a, .int b, .str z2, .int c, .int d, .str z3, .int e, .int f])), some (.val (.int n)), none], []⟩ := by
    have ix : eBin pIx (eVar 0) (eC (.int 1)) ⟨[some (.val (.tup [.str "sum", gt l h s r, .str z, .int a, .int b, .str z2, .int c, .int d, .str z3, .int e, .int f])), some (.val (.int n)), none], []⟩ = .ok (gt l h s r) ⟨[some (.val (.tup [.str "sum", gt l h s r, .str z, .int a, .int b, .str z2, .int c, .int d, .str z3, .int e, .int f])), some (.val (.int n)), none], []⟩ := rfl
    have ig : eCall PM.m_is_guard (avN 1 (lPv (eBin pIx (eVar 0) (eC (.int 1))) lNil)) ⟨[some (.val (.tup [.str "sum", gt l h s r, .str z, .int a, .int b, .str z2, .int c, .int d, .str z3, .int e, .int f])), some (.val (.int n)), none], []⟩ = .ok (.bl true) ⟨[some (.val (.tup [.str "sum", gt l h s r, .str z, .int a, .int b, .str z2, .int c, .int d, .str z3, .int e, .int f])), some (.val (.int n)), none], []⟩ := by
      simp only [eCall, avN, lPv, lNil, ix, Res.bind_ok, List.length_cons, List.length_nil, Nat.reduceAdd, if_true, lowerA, distinct, getAll, setAll, g]
    have il : eBin pLe (eBin pIx (eBin pIx (eVar 0) (eC (.int 1))) (eC (.int 1))) (eVar 1) ⟨[some (.val (.tup [.str "sum", gt l h s r, .str z, .int a, .int b, .str z2, .int c, .int d, .str z3, .int e, .int f])), some (.val (.int n)), none], []⟩ = .ok (.bl true) ⟨[some (.val (.tup [.str "sum", gt l h s r, .str z, .int a, .int b, .str z2, .int c, .int d, .str z3, .int e, .int f])), some (.val (.int n)), none], []⟩ := by
      show Res.ok (PV.bl (decide (h ≤ n))) _ = _
      rw [dn]
    unfold q_is_statement_3 gRet eAn
    rw [ig]
    simp only [Res.bind_ok, pTru, il]
    rfl
  unfold m_is_statement
  rw [g_is_statement_eq]
  simp only [mOf, start0, List.map_cons, List.map_nil, List.length_cons, List.length_nil, Nat.reduceAdd, Nat.reduceSub, List.replicate, List.cons_append, List.nil_append]
  rw [seq_nx t1, seq_nx t2, seq_rt t3]
  rfl
theorem e_is_stm {n : Int} {x : Stm} (o : x.ok n) : m_is_statement [.val x.pv, .val (.int n)] [] = .ok (.bl true) [] := by
  have hg : isGuard x.l x.h x.s x.r = true := guard_iff.mpr ⟨o.l0, o.lh, o.r0, o.r1⟩
  have hn := o.hn
  have hz := o.z.arr
  have k := o.k
  obtain ⟨l, h, s, r, z, a, b, k'⟩ := x
  cases k' with
  | put c d => exact e_is_put_stm l h s r a b c d n z hz hg hn
  | move z2 c d e => exact e_is_move_stm l h s r a b c d e n z z2 hz k.1.arr hg hn
  | sum z2 c d z3 e f => exact e_is_sum_stm l h s r a b c d e f n z z2 z3 hz k.1.arr k.2.2.1.arr hg hn
end PM
/-! PWK3: kernels made with barriers, mirrored, compared, looked at. -/
namespace PM
open PySem PySem.Spec PyProof.Rows L2 PL PN
local macro_rules | `(tactic| walk_at "ev") => `(tactic| try simp only [mOf, endF, start0, gSeq, gNop, gAsg, gRet, gRetO, gAsgO, gDrop, gIf, gOpt, gPar, gPar3, gAug, aName, asNil, asCons, aTup, aLst, setV, setO, eVar, eC, eBin, eUn, eTup, aNil, aCons, oLst, frz, eCall, oCall, avN, avK, permL, lNil, lPv, lSl, tOf, tTru, tNt, tAn, tOrr, eIf, eAn, eOr, eNt, eChain, eCallB, eIxM, gSetIx, getM, pTru, pAdd, pSub, pMul, pFdiv, pMod, pPow, pNeg, pLt, pLe, pGt, pGe, pIs, pIsNot, pAddI, pIx, pLen, pAbs, pMax2, pMin2, Res.bind_ok, Res.bind_ex, Res.bind_stuck, Res.fl_ok, Res.fl_ex, Res.fl_stuck, Res.opt_some, Res.opt_none, lowerA, PL.keyOf, getK, getAll, setAll, setK, distinct, List.map_cons, List.map_nil, List.length_cons, List.length_nil, List.replicate, List.cons_append, List.nil_append, List.append_nil, List.getElem?_cons_zero, List.getElem?_cons_succ, List.getElem?_nil, List.set_cons_zero, List.set_cons_succ, List.filterMap_cons, List.filterMap_nil, Option.bind_some, Option.map_some, Option.elim_some, if_true, if_false, Nat.reduceAdd, Nat.reduceSub, Nat.reduceEqDiff, Nat.reduceLeDiff, ↓reduceIte, Bool.false_eq_true, at0, at1, at2, at3, pEq, pNe, eqB_int, Option.some.injEq, decide_true, decide_false, not_true_eq_false, not_false_eq_true, Bool.and_true, ne_eq, reduceCtorEq, Bool.true_eq_false, Bool.not_true, Bool.not_false, frz, noEx, wipeS, wipeR, backS, backR, keepV, oComp, gFor, iAny, iRange1, iRange2, iRange3, iRangeW1, iRangeW2, eCallQ, oRgW2, oRgW, pInt1, iEnumQ, eDct, iTxt, eFld, eMake, gSetFld, eFldM, eTupV, putP, eLenSet, gFrz, Nat.reduceLT, oRg2, oRg1, oRg, tYesD, pIn, pNotIn, eSl, pNo, pSo, forL_nil, gApp, gParO, List.not_mem_nil, List.not_mem_nil])
local macro_rules | `(tactic| walk_at "evs") => `(tactic| simp only [*, mOf, endF, start0, gSeq, gNop, gAsg, gRet, gRetO, gAsgO, gDrop, gIf, gOpt, gPar, gPar3, gAug, aName, asNil, asCons, aTup, aLst, setV, setO, eVar, eC, eBin, eUn, eTup, aNil, aCons, oLst, frz, eCall, oCall, avN, avK, permL, lNil, lPv, lSl, tOf, tTru, tNt, tAn, tOrr, eIf, eAn, eOr, eNt, eChain, eCallB, eIxM, gSetIx, getM, pTru, pAdd, pSub, pMul, pFdiv, pMod, pPow, pNeg, pLt, pLe, pGt, pGe, pIs, pIsNot, pAddI, pIx, pLen, pAbs, pMax2, pMin2, Res.bind_ok, Res.bind_ex, Res.bind_stuck, Res.fl_ok, Res.fl_ex, Res.fl_stuck, Res.opt_some, Res.opt_none, lowerA, PL.keyOf, getK, getAll, setAll, setK, distinct, List.map_cons, List.map_nil, List.length_cons, List.length_nil, List.replicate, List.cons_append, List.nil_append, List.append_nil, List.getElem?_cons_zero, List.getElem?_cons_succ, List.getElem?_nil, List.set_cons_zero, List.set_cons_succ, List.filterMap_cons, List.filterMap_nil, Option.bind_some, Option.map_some, Option.elim_some, if_true, if_false, Nat.reduceAdd, Nat.reduceSub, Nat.reduceEqDiff, Nat.reduceLeDiff, ↓reduceIte, Bool.false_eq_true, at0, at1, at2, at3, pEq, pNe, eqB_int, Option.some.injEq, decide_true, decide_false, not_true_eq_false, not_false_eq_true, Bool.and_true, ne_eq, reduceCtorEq, Bool.true_eq_false, Bool.not_true, Bool.not_false, frz, noEx, wipeS, wipeR, backS, backR, keepV, oComp, gFor, iAny, iRange1, iRange2, iRange3, iRangeW1, iRangeW2, eCallQ, oRgW2, oRgW, pInt1, iEnumQ, eDct, iTxt, eFld, eMake, gSetFld, eFldM, eTupV, putP, eLenSet, gFrz, Nat.reduceLT, oRg2, oRg1, oRg, tYesD, pIn, pNotIn, eSl, pNo, pSo, forL_nil, gApp, gParO, List.not_mem_nil, List.not_mem_nil, eq_self, not_true_eq_false, not_false_eq_true, ix30, ix31, ix32, Bool.and_self, and_self, and_true, true_and])
/-- barriers of so many statements -/
def BarOk (k : Int) (bs : List Int) : Prop := ∀ (i : Nat) (p q : Int), (0 :: bs)[i]? = some p → bs[i]? = some q → p < q ∧ q < k
theorem enumP_at {L : List PV} {i : Nat} {p : PV} (h : (enumP L)[i]? = some p) : ∃ q, L[i]? = some q ∧ p = .tup [.int (i : Int), q] := by
  have hl : i < L.length := by
    have := (List.getElem?_eq_some_iff.mp h).1
    rwa [enumP_len] at this
  refine ⟨L[i], List.getElem?_eq_getElem hl, ?_⟩
  unfold enumP zipP at h
  rw [List.getElem?_zipWith, List.getElem?_map, List.getElem?_range hl, List.getElem?_eq_getElem hl] at h
  exact (Option.some.inj h).symm
end PM
/-! PWK4: a kernel's properties, methods and comparisons, where it stands in a slot. -/
namespace PM
open PySem PySem.Spec PyProof.Rows L2 PL PN
theorem bar_of {k : Int} {bs : List Int} (h : bs.Pairwise (· < ·)) (h0 : ∀ b ∈ bs, 0 < b ∧ b < k) : BarOk k bs := by
  intro i p q hp hq
  have hm := h0 q (List.mem_of_getElem? hq)
  refine ⟨?_, hm.2⟩
  cases i with
  | zero => cases hp; exact hm.1
  | succ i =>
    rw [List.getElem?_cons_succ] at hp
    obtain ⟨a1, a2⟩ := List.getElem?_eq_some_iff.mp hp
    obtain ⟨b1, b2⟩ := List.getElem?_eq_some_iff.mp hq
    rw [← a2, ← b2]
    exact List.pairwise_iff_getElem.mp h i (i + 1) a1 b1 (by omega)
end PM
/-! PGN: plain maths of guards that meet, of remainders, of barriers. -/
namespace PM
open PySem PySem.Spec PyProof.Rows L2 PL PN
/-- what meeting answers, by the lanes alone -/
def NF (lo hi : Int) (P : Int → Prop) (m : PV) : Prop :=
  (m = .non ∧ ∀ z, lo ≤ z → z < hi → ¬ P z) ∨
  ∃ t c, m = gt lo hi t c ∧ 0 ≤ c ∧ c < t ∧ (∀ z, P z ↔ z % t = c) ∧ ∃ z, lo ≤ z ∧ z < hi ∧ P z
theorem NF.uniq {lo hi : Int} {P : Int → Prop} {m m' : PV} (h : NF lo hi P m) (h' : NF lo hi P m') : m = m' := by
  rcases h with ⟨rfl, h⟩ | ⟨t, c, rfl, c0, c1, hp, z, z1, z2, z3⟩
  · rcases h' with ⟨rfl, _⟩ | ⟨t', c', rfl, _, _, _, z, z1, z2, z3⟩
    · rfl
    · exact absurd z3 (h z z1 z2)
  · rcases h' with ⟨rfl, h'⟩ | ⟨t', c', rfl, d0, d1, hq, _⟩
    · exact absurd z3 (h' z z1 z2)
    · have k1 : ∀ z, z % t = c ↔ z % t' = c' := fun z => (hp z).symm.trans (hq z)
      have e1 : c % t = c := Int.emod_eq_of_lt c0 c1
      have a1 : c % t' = c' := (k1 c).mp e1
      have a2 : (c + t) % t' = c' := (k1 _).mp (by rw [Int.add_emod_right]; exact e1)
      have e2 : c' % t' = c' := Int.emod_eq_of_lt d0 d1
      have b1 : c' % t = c := (k1 c').mpr e2
      have b2 : (c' + t') % t = c := (k1 _).mpr (by rw [Int.add_emod_right]; exact e2)
      have x1 : t' ∣ t := by
        have := dvd_of_emod (a2.trans a1.symm)
        rwa [show c + t - c = t by omega] at this
      have x2 : t ∣ t' := by
        have := dvd_of_emod (b2.trans b1.symm)
        rwa [show c' + t' - c' = t' by omega] at this
      have e : t = t' := Int.dvd_antisymm (by omega) (by omega) x2 x1
      subst e
      rw [← a1, e1]
/-- a guard with a bounded step -/
structure Gv (l h s r B : Int) : Prop where
  l0 : 0 ≤ l
  lh : l ≤ h
  r0 : 0 ≤ r
  r1 : r < s
  sb : s ≤ B
theorem Gv.g {l h s r B : Int} (g : Gv l h s r B) : isGuard l h s r = true := guard_iff.mpr ⟨g.l0, g.lh, g.r0, g.r1⟩
theorem Gv.s0 {l h s r B : Int} (g : Gv l h s r B) : 0 < s := by have := g.r0; have := g.r1; omega
theorem Gv.none {l h s r B : Int} (g : Gv l h s r B) (hn : ¬ 0 < lanesOf l h s r) {z : Int} (h1 : l ≤ z) (h2 : z < h) : ¬ z % s = r := fun e => by
  obtain ⟨k, k0, k1, _⟩ := (lane_iff g.s0 g.r0 g.r1).mp ⟨h1, h2, e⟩
  omega
/-! ### lanes of remainders of a multiple of the step -/
end PM
/-! PWB: small lemmas of the walk; kernels of a list of statements; barriers of two kernels behind one another. -/
namespace PM
open PySem PySem.Spec PyProof.Rows L2 PL PN
theorem call1v {st : Stt} {m : List SV → List MO → FRes} {fa : Stt → Res PV} {p r : PV} (hf : fa st = .ok p st) (e : m [.val p] [] = .ok r []) : eCall m (avN 1 (lPv fa lNil)) st = .ok r st := by
  simp only [eCall, avN, lPv, lNil, hf, Res.bind_ok, List.length_cons, List.length_nil, Nat.reduceAdd, if_true, lowerA, distinct, getAll, setAll, e]
theorem call2v {st : Stt} {m : List SV → List MO → FRes} {fa fb : Stt → Res PV} {p q r : PV} (hf : fa st = .ok p st) (hg : fb st = .ok q st) (e : m [.val p, .val q] [] = .ok r []) : eCall m (avN 2 (lPv fa (lPv fb lNil))) st = .ok r st := by
  simp only [eCall, avN, lPv, lNil, hf, hg, Res.bind_ok, List.length_cons, List.length_nil, Nat.reduceAdd, if_true, lowerA, distinct, getAll, setAll, e]
theorem bin_at {st : Stt} {op : PV → PV → Option PV} {fa fb : Stt → Res PV} {p q r : PV} (ha : fa st = .ok p st) (hb : fb st = .ok q st) (h : op p q = some r) : eBin op fa fb st = .ok r st := by
  simp only [eBin, ha, hb, Res.bind_ok, h, Res.opt_some]
theorem bin_at2 {st s1 s2 : Stt} {op : PV → PV → Option PV} {fa fb : Stt → Res PV} {p q r : PV} (ha : fa st = .ok p s1) (hb : fb s1 = .ok q s2) (h : op p q = some r) : eBin op fa fb st = .ok r s2 := by
  simp only [eBin, ha, hb, Res.bind_ok, h, Res.opt_some]
theorem asg_at {st s1 s2 : Stt} {fa : Stt → Res PV} {i : Nat} {p : PV} (ha : fa st = .ok p s1) (h : setV i p s1 = s2) : gAsg fa (aName i) st = .nx s2 := by
  unfold gAsg
  rw [ha, ← h]
  rfl
theorem add_lst {a b : List PV} (h : a.length + b.length ≤ 16777216) : pAdd (.lst a) (.lst b) = some (.lst (a ++ b)) := if_pos h
theorem if_no {st : Stt} {ft : Stt → Res Bool} {g : Stt → Fl} (h : ft st = .ok false st) : gIf ft g gNop st = .nx st := by
  simp only [gIf, h, Res.fl, Bool.false_eq_true, if_false, gNop]
theorem ret_at {st s1 : Stt} {fa : Stt → Res PV} {p : PV} (ha : fa st = .ok p s1) : gRet fa st = .rt p s1 := by
  unfold gRet
  rw [ha]
  rfl
abbrev bars (bs : List Int) : PV := .lst (bs.map PV.int)
theorem Dd.bl (b : Bool) : Dd (.bl b) 0 := ⟨.bool b, rfl, by simp [PyData.canLay0], by simp [PyData.depth]⟩
theorem ix1 (x : Stm) : pIx x.pv (.int 1) = some (gt x.l x.h x.s x.r) := by
  obtain ⟨l, h, s, r, z, a, b, k⟩ := x
  cases k <;> rfl
theorem mm {n : Int} {xs : List Stm} (hx : ∀ x ∈ xs, x.ok n) : (xs.map (Stm.mir n)).map (Stm.mir n) = xs := by
  rw [List.map_map]
  exact (List.map_congr_left (g := id) fun x h => Stm.mir_mir (hx x h)).trans (List.map_id _)
theorem drop_at {st s1 : Stt} {fa : Stt → Res PV} {p : PV} (ha : fa st = .ok p s1) : gDrop fa st = .nx s1 := by
  unfold gDrop
  rw [ha]
  rfl
theorem lst_at {st s1 : Stt} {fa : Stt → Res (List PV)} {l : List PV} (ha : fa st = .ok l s1) (h : l.length ≤ 16777216) : frz (oLst fa) st = .ok (.lst l) s1 := by
  unfold frz oLst
  rw [ha]
  simp only [Res.bind_ok]
  rw [if_pos h]
  rfl
theorem Dd.non : Dd .non 0 := ⟨.none, rfl, by simp [PyData.canLay0], by simp [PyData.depth]⟩
/-! ### barriers -/
theorem bar_asc {k : Int} : ∀ {bs : List Int} {lo : Int}, (∀ (i : Nat) (p q : Int), (lo :: bs)[i]? = some p → bs[i]? = some q → p < q ∧ q < k) → bs.Pairwise (· < ·) ∧ ∀ b ∈ bs, lo < b ∧ b < k
  | [], _, _ => ⟨.nil, by simp⟩
  | b :: t, lo, h => by
    have h0 := h 0 lo b rfl rfl
    obtain ⟨i1, i2⟩ := bar_asc (bs := t) (lo := b) fun i p q hp hq => h (i + 1) p q hp hq
    refine ⟨List.pairwise_cons.mpr ⟨fun x hx => (i2 x hx).1, i1⟩, fun x hx => ?_⟩
    rcases List.mem_cons.mp hx with rfl | hx
    · exact h0
    · have := i2 x hx; omega
structure Bar (k : Nat) (bs : List Int) : Prop where
  asc : bs.Pairwise (· < ·)
  bd : ∀ b ∈ bs, 0 < b ∧ b < k
theorem Bar.ok {k : Nat} {bs : List Int} (h : Bar k bs) : BarOk k bs := bar_of h.asc h.bd
theorem Bar.of {k : Nat} {bs : List Int} (h : BarOk k bs) : Bar k bs := ⟨(bar_asc h).1, (bar_asc h).2⟩
def btwI (a b : Nat) : List Int := if 0 < a ∧ 0 < b then [(a : Int)] else []
def joinB (bs : List Int) (a b : Nat) (cs : List Int) : List Int := bs ++ btwI a b ++ cs.map fun c => (a : Int) + c
theorem btw_mem {a b : Nat} {x : Int} (h : x ∈ btwI a b) : x = a ∧ 0 < a ∧ 0 < b := by
  unfold btwI at h
  split at h
  · rw [List.mem_singleton] at h; rename_i q; exact ⟨h, q⟩
  · cases h
theorem Bar.join {a b : Nat} {bs cs : List Int} (h1 : Bar a bs) (h2 : Bar b cs) : Bar (a + b) (joinB bs a b cs) := by
  refine ⟨?_, fun x hx => ?_⟩
  · unfold joinB
    rw [List.append_assoc, List.pairwise_append, List.pairwise_append]
    refine ⟨h1.asc, ⟨?_, ?_, ?_⟩, ?_⟩
    · unfold btwI; split <;> simp
    · rw [List.pairwise_map]
      exact h2.asc.imp fun h => by omega
    · intro x hx y hy
      obtain ⟨c, hc, rfl⟩ := List.mem_map.mp hy
      have := (btw_mem hx).1
      have := h2.bd c hc
      omega
    · intro x hx y hy
      have k1 := h1.bd x hx
      rcases List.mem_append.mp hy with hy | hy
      · have := (btw_mem hy).1; omega
      · obtain ⟨c, hc, rfl⟩ := List.mem_map.mp hy
        have := h2.bd c hc
        omega
  · unfold joinB at hx
    rcases List.mem_append.mp hx with hx | hx
    · rcases List.mem_append.mp hx with hx | hx
      · have := h1.bd x hx; omega
      · have := btw_mem hx; omega
    · obtain ⟨c, hc, rfl⟩ := List.mem_map.mp hx
      have := h2.bd c hc
      omega
end PM
/-! PWC: accesses of all words, phases, the sum of two kernels, other barriers. -/
namespace PM
open PySem PySem.Spec PyProof.Rows L2 PL PN
local macro_rules | `(tactic| walk_at "ev") => `(tactic| try simp only [mOf, endF, start0, gSeq, gNop, gAsg, gRet, gRetO, gAsgO, gDrop, gIf, gOpt, gPar, gPar3, gAug, aName, asNil, asCons, aTup, aLst, setV, setO, eVar, eC, eBin, eUn, eTup, aNil, aCons, oLst, frz, eCall, oCall, avN, avK, permL, lNil, lPv, lSl, tOf, tTru, tNt, tAn, tOrr, eIf, eAn, eOr, eNt, eChain, eCallB, eIxM, gSetIx, getM, pTru, pAdd, pSub, pMul, pFdiv, pMod, pPow, pNeg, pLt, pLe, pGt, pGe, pIs, pIsNot, pAddI, pIx, pLen, pAbs, pMax2, pMin2, Res.bind_ok, Res.bind_ex, Res.bind_stuck, Res.fl_ok, Res.fl_ex, Res.fl_stuck, Res.opt_some, Res.opt_none, lowerA, PL.keyOf, getK, getAll, setAll, setK, distinct, List.map_cons, List.map_nil, List.length_cons, List.length_nil, List.replicate, List.cons_append, List.nil_append, List.append_nil, List.getElem?_cons_zero, List.getElem?_cons_succ, List.getElem?_nil, List.set_cons_zero, List.set_cons_succ, List.filterMap_cons, List.filterMap_nil, Option.bind_some, Option.map_some, Option.elim_some, if_true, if_false, Nat.reduceAdd, Nat.reduceSub, Nat.reduceEqDiff, Nat.reduceLeDiff, ↓reduceIte, Bool.false_eq_true, at0, at1, at2, at3, pEq, pNe, eqB_int, Option.some.injEq, decide_true, decide_false, not_true_eq_false, not_false_eq_true, Bool.and_true, ne_eq, reduceCtorEq, Bool.true_eq_false, Bool.not_true, Bool.not_false, frz, noEx, wipeS, wipeR, backS, backR, keepV, oComp, gFor, iAny, iRange1, iRange2, iRange3, iRangeW1, iRangeW2, eCallQ, oRgW2, oRgW, pInt1, iEnumQ, eDct, iTxt, eFld, eMake, gSetFld, eFldM, eTupV, putP, eLenSet, gFrz, Nat.reduceLT, oRg2, oRg1, oRg, tYesD, pIn, pNotIn, eSl, pNo, pSo, forL_nil, gApp, gParO, List.not_mem_nil, List.not_mem_nil])
local macro_rules | `(tactic| walk_at "evs") => `(tactic| simp only [*, mOf, endF, start0, gSeq, gNop, gAsg, gRet, gRetO, gAsgO, gDrop, gIf, gOpt, gPar, gPar3, gAug, aName, asNil, asCons, aTup, aLst, setV, setO, eVar, eC, eBin, eUn, eTup, aNil, aCons, oLst, frz, eCall, oCall, avN, avK, permL, lNil, lPv, lSl, tOf, tTru, tNt, tAn, tOrr, eIf, eAn, eOr, eNt, eChain, eCallB, eIxM, gSetIx, getM, pTru, pAdd, pSub, pMul, pFdiv, pMod, pPow, pNeg, pLt, pLe, pGt, pGe, pIs, pIsNot, pAddI, pIx, pLen, pAbs, pMax2, pMin2, Res.bind_ok, Res.bind_ex, Res.bind_stuck, Res.fl_ok, Res.fl_ex, Res.fl_stuck, Res.opt_some, Res.opt_none, lowerA, PL.keyOf, getK, getAll, setAll, setK, distinct, List.map_cons, List.map_nil, List.length_cons, List.length_nil, List.replicate, List.cons_append, List.nil_append, List.append_nil, List.getElem?_cons_zero, List.getElem?_cons_succ, List.getElem?_nil, List.set_cons_zero, List.set_cons_succ, List.filterMap_cons, List.filterMap_nil, Option.bind_some, Option.map_some, Option.elim_some, if_true, if_false, Nat.reduceAdd, Nat.reduceSub, Nat.reduceEqDiff, Nat.reduceLeDiff, ↓reduceIte, Bool.false_eq_true, at0, at1, at2, at3, pEq, pNe, eqB_int, Option.some.injEq, decide_true, decide_false, not_true_eq_false, not_false_eq_true, Bool.and_true, ne_eq, reduceCtorEq, Bool.true_eq_false, Bool.not_true, Bool.not_false, frz, noEx, wipeS, wipeR, backS, backR, keepV, oComp, gFor, iAny, iRange1, iRange2, iRange3, iRangeW1, iRangeW2, eCallQ, oRgW2, oRgW, pInt1, iEnumQ, eDct, iTxt, eFld, eMake, gSetFld, eFldM, eTupV, putP, eLenSet, gFrz, Nat.reduceLT, oRg2, oRg1, oRg, tYesD, pIn, pNotIn, eSl, pNo, pSo, forL_nil, gApp, gParO, List.not_mem_nil, List.not_mem_nil, eq_self, not_true_eq_false, not_false_eq_true, ix30, ix31, ix32, Bool.and_self, and_self, and_true, true_and])
/-! ### accesses -/
abbrev accR (i : Int) (z : Str) (a b : Int) : PV := .tup [.int i, .str "read", .str z, .int a, .int b]
def accOf (i : Int) (x : Stm) : List PV := match x.k with
  | .put _ _ => [accW i x.z x.a x.b]
  | .move z2 c d _ => [accR i z2 c d, accW i x.z x.a x.b]
  | .sum z2 c d z3 e f => [accR i z2 c d, accR i z3 e f, accW i x.z x.a x.b]
def accs (i : Int) : List Stm → List PV
  | [] => []
  | x :: xs => accOf i x ++ accs (i + 1) xs
theorem accs_append : ∀ (i : Int) (xs ys : List Stm), accs i (xs ++ ys) = accs i xs ++ accs (i + xs.length) ys
  | i, [], ys => by rw [List.nil_append]; show _ = [] ++ accs (i + ((0 : Nat) : Int)) ys; simp
  | i, x :: xs, ys => by
    rw [List.cons_append]
    show accOf i x ++ accs (i + 1) (xs ++ ys) = accOf i x ++ accs (i + 1) xs ++ _
    rw [accs_append (i + 1) xs ys, List.append_assoc, List.length_cons, show i + 1 + (xs.length : Int) = i + ((xs.length + 1 : Nat) : Int) by omega]
theorem accOf_len (i : Int) (x : Stm) : (accOf i x).length ≤ 3 := by
  obtain ⟨l, h, s, r, z, a, b, k⟩ := x
  cases k <;> simp [accOf]
theorem accs_len : ∀ (i : Int) (xs : List Stm), (accs i xs).length ≤ 3 * xs.length
  | i, [] => by simp [accs]
  | i, x :: xs => by
    have := accs_len (i + 1) xs
    have := accOf_len i x
    rw [accs, List.length_append, List.length_cons]
    omega
theorem e_accesses_putA (i : Int) (l h s r a b : Int) (z : Str) (c d : Int) : m_accesses_in [.val (.int i), .val (.tup [.str "put", gt l h s r, .str z, .int a, .int b, .int c, .int d])] [] = .ok (.lst [accW i z a b]) [] := by
  have t1 : q_accesses_in_1 ⟨[some (.val (.int i)), some (.val (.tup [.str "put", gt l h s r, .str z, .int a, .int b, .int c, .int d])), none, none, none], []⟩ = .nx ⟨[some (.val (.int i)), some (.val (.tup [.str "put", gt l h s r, .str z, .int a, .int b, .int c, .int d])), some (.val (.tup [.int 2])), none, none], []⟩ := rfl
  have t2 : q_accesses_in_2 ⟨[some (.val (.int i)), some (.val (.tup [.str "put", gt l h s r, .str z, .int a, .int b, .int c, .int d])), some (.val (.tup [.int 2])), none, none], []⟩ = .nx ⟨[some (.val (.int i)), some (.val (.tup [.str "put", gt l h s r, .str z, .int a, .int b, .int c, .int d])), some (.val (.tup [.int 2])), some (.val (.lst [])), none], []⟩ := rfl
  have t3 : q_accesses_in_3 ⟨[some (.val (.int i)), some (.val (.tup [.str "put", gt l h s r, .str z, .int a, .int b, .int c, .int d])), some (.val (.tup [.int 2])), some (.val (.lst [])), none], []⟩ = .rt (.lst [accW i z a b]) ⟨[some (.val (.int i)), some (.val (.tup [.str "put", gt l h s r, .str z, .int a, .int b, .int c, .int d])), some (.val (.tup [.int 2])), some (.val (.lst [])), none], []⟩ := rfl
  unfold m_accesses_in
  rw [g_accesses_in_eq]
  simp only [mOf, start0, List.map_cons, List.map_nil, List.length_cons, List.length_nil, Nat.reduceAdd, Nat.reduceSub, List.replicate, List.cons_append, List.nil_append]
  rw [seq_nx t1, seq_nx t2, seq_rt t3]
  rfl
theorem e_accesses_moveA (i : Int) (l h s r a b : Int) (z : Str) (c d e : Int) (z2 : Str) : m_accesses_in [.val (.int i), .val (.tup [.str "move", gt l h s r, .str z, .int a, .int b, .str z2, .int c, .int d, .int e])] [] = .ok (.lst [accR i z2 c d, accW i z a b]) [] := by
  have t1 : q_accesses_in_1 ⟨[some (.val (.int i)), some (.val (.tup [.str "move", gt l h s r, .str z, .int a, .int b, .str z2, .int c, .int d, .int e])), none, none, none], []⟩ = .nx ⟨[some (.val (.int i)), some (.val (.tup [.str "move", gt l h s r, .str z, .int a, .int b, .str z2, .int c, .int d, .int e])), some (.val (.tup [.int 2, .int 5])), none, none], []⟩ := rfl
  have t2 : q_accesses_in_2 ⟨[some (.val (.int i)), some (.val (.tup [.str "move", gt l h s r, .str z, .int a, .int b, .str z2, .int c, .int d, .int e])), some (.val (.tup [.int 2, .int 5])), none, none], []⟩ = .nx ⟨[some (.val (.int i)), some (.val (.tup [.str "move", gt l h s r, .str z, .int a, .int b, .str z2, .int c, .int d, .int e])), some (.val (.tup [.int 2, .int 5])), some (.val (.lst [accR i z2 c d])), none], []⟩ := rfl
  have t3 : q_accesses_in_3 ⟨[some (.val (.int i)), some (.val (.tup [.str "move", gt l h s r, .str z, .int a, .int b, .str z2, .int c, .int d, .int e])), some (.val (.tup [.int 2, .int 5])), some (.val (.lst [accR i z2 c d])), none], []⟩ = .rt (.lst [accR i z2 c d, accW i z a b]) ⟨[some (.val (.int i)), some (.val (.tup [.str "move", gt l h s r, .str z, .int a, .int b, .str z2, .int c, .int d, .int e])), some (.val (.tup [.int 2, .int 5])), some (.val (.lst [accR i z2 c d])), none], []⟩ := rfl
  unfold m_accesses_in
  rw [g_accesses_in_eq]
  simp only [mOf, start0, List.map_cons, List.map_nil, List.length_cons, List.length_nil, Nat.reduceAdd, Nat.reduceSub, List.replicate, List.cons_append, List.nil_append]
  rw [seq_nx t1, seq_nx t2, seq_rt t3]
  rfl
theorem e_accesses_sumA (i : Int) (l h s r a b : Int) (z : Str) (c d e f : Int) (z2 z3 : Str) : m_accesses_in [.val (.int i), .val (.tup [.str "sum", gt l h s r, .str z, .int a, .int b, .str z2, .int c, .int d, .str z3, .int e, .int f])] [] = .ok (.lst [accR i z2 c d, accR i z3 e f, accW i z a b]) [] := by
  have t1 : q_accesses_in_1 ⟨[some (.val (.int i)), some (.val (.tup [.str "sum", gt l h s r, .str z, .int a, .int b, .str z2, .int c, .int d, .str z3, .int e, .int f])), none, none, none], []⟩ = .nx ⟨[some (.val (.int i)), some (.val (.tup [.str "sum", gt l h s r, .str z, .int a, .int b, .str z2, .int c, .int d, .str z3, .int e, .int f])), some (.val (.tup [.int 2, .int 5, .int 8])), none, none], []⟩ := rfl
  have t2 : q_accesses_in_2 ⟨[some (.val (.int i)), some (.val (.tup [.str "sum", gt l h s r, .str z, .int a, .int b, .str z2, .int c, .int d, .str z3, .int e, .int f])), some (.val (.tup [.int 2, .int 5, .int 8])), none, none], []⟩ = .nx ⟨[some (.val (.int i)), some (.val (.tup [.str "sum", gt l h s r, .str z, .int a, .int b, .str z2, .int c, .int d, .str z3, .int e, .int f])), some (.val (.tup [.int 2, .int 5, .int 8])), some (.val (.lst [accR i z2 c d, accR i z3 e f])), none], []⟩ := rfl
  have t3 : q_accesses_in_3 ⟨[some (.val (.int i)), some (.val (.tup [.str "sum", gt l h s r, .str z, .int a, .int b, .str z2, .int c, .int d, .str z3, .int e, .int f])), some (.val (.tup [.int 2, .int 5, .int 8])), some (.val (.lst [accR i z2 c d, accR i z3 e f])), none], []⟩ = .rt (.lst [accR i z2 c d, accR i z3 e f, accW i z a b]) ⟨[some (.val (.int i)), some (.val (.tup [.str "sum", gt l h s r, .str z, .int a, .int b, .str z2, .int c, .int d, .str z3, .int e, .int f])), some (.val (.tup [.int 2, .int 5, .int 8])), some (.val (.lst [accR i z2 c d, accR i z3 e f])), none], []⟩ := rfl
  unfold m_accesses_in
  rw [g_accesses_in_eq]
  simp only [mOf, start0, List.map_cons, List.map_nil, List.length_cons, List.length_nil, Nat.reduceAdd, Nat.reduceSub, List.replicate, List.cons_append, List.nil_append]
  rw [seq_nx t1, seq_nx t2, seq_rt t3]
  rfl
theorem e_accesses_in (i : Int) (x : Stm) : m_accesses_in [.val (.int i), .val x.pv] [] = .ok (.lst (accOf i x)) [] := by
  obtain ⟨l, h, s, r, z, a, b, kk⟩ := x
  cases kk with
  | put c d => exact e_accesses_putA i l h s r a b z c d
  | move z2 c d e => exact e_accesses_moveA i l h s r a b z c d e z2
  | sum z2 c d z3 e f => exact e_accesses_sumA i l h s r a b z c d e f z2 z3
section
variable {n : Int} {xs ys : List Stm} {bs cs : List Int}
theorem e_access_list (hl : xs.length ≤ 1000) : m_access_list [.val (kern n (xs.map Stm.pv) (bs.map PV.int))] [] = .ok (.lst (accs 0 xs)) [] := by
  obtain ⟨s2, e2, x2, x3, rfl⟩ := forL_inv (a := l_access_list_1b) (b := l_access_list_1c) (fun i s => ∃ x2 x3 : Option SV, s = ⟨[some (.val (kern n (xs.map Stm.pv) (bs.map PV.int))), some (.own (.lst (accs 0 (xs.take i)))), x2, x3], []⟩) (enumP (xs.map Stm.pv)) 0 ⟨[some (.val (kern n (xs.map Stm.pv) (bs.map PV.int))), some (.own (.lst ([]))), none, none], []⟩ ⟨none, none, by rw [List.take_zero]; rfl⟩ (by
    rintro i p s hpi ⟨x2, x3, rfl⟩
    obtain ⟨q, hq, rfl⟩ := enumP_at hpi
    rw [List.getElem?_map] at hq
    cases hxi : xs[i]? with
    | none => rw [hxi] at hq; cases hq
    | some x =>
      rw [hxi] at hq
      obtain rfl : x.pv = q := Option.some.inj hq
      have hi : i < xs.length := (List.getElem?_eq_some_iff.mp hxi).1
      have hlen : (xs.take i).length = i := by rw [List.length_take]; omega
      refine ⟨_, rfl, ⟨[some (.val (kern n (xs.map Stm.pv) (bs.map PV.int))), some (.own (.lst (accs 0 (xs.take (i + 1))))), some (.val (.int (i : Int))), some (.val (x.pv))], []⟩, .inl ?_, some (.val (.int (i : Int))), some (.val (x.pv)), by rw [Nat.zero_add]⟩
      have q : eCall PM.m_accesses_in (avN 2 (lPv (eVar 2) (lPv (eVar 3) lNil))) ⟨[some (.val (kern n (xs.map Stm.pv) (bs.map PV.int))), some (.own (.lst (accs 0 (xs.take i)))), some (.val (.int (i : Int))), some (.val (x.pv))], []⟩ = .ok (.lst (accOf i x)) ⟨[some (.val (kern n (xs.map Stm.pv) (bs.map PV.int))), some (.own (.lst (accs 0 (xs.take i)))), some (.val (.int (i : Int))), some (.val (x.pv))], []⟩ := call2v rfl rfl (e_accesses_in i x)
      have g : getM (⟨[some (.val (kern n (xs.map Stm.pv) (bs.map PV.int))), some (.own (.lst (accs 0 (xs.take i)))), some (.val (.int (i : Int))), some (.val (x.pv))], []⟩ : Stt) 1 = some (.inl 1, .lst (accs 0 (xs.take i))) := rfl
      have b1 := accs_len 0 (xs.take i)
      have b2 := accOf_len i x
      have t : l_access_list_1c_s1 ⟨[some (.val (kern n (xs.map Stm.pv) (bs.map PV.int))), some (.own (.lst (accs 0 (xs.take i)))), some (.val (.int (i : Int))), some (.val (x.pv))], []⟩ = .nx ⟨[some (.val (kern n (xs.map Stm.pv) (bs.map PV.int))), some (.own (.lst (accs 0 (xs.take (i + 1))))), some (.val (.int (i : Int))), some (.val (x.pv))], []⟩ := by
        unfold l_access_list_1c_s1 gExt
        rw [g]
        simp only [Option.elim_some, q, Res.fl, g]
        rw [if_pos (by omega), List.take_add_one, hxi, Option.toList_some, accs_append, hlen, Int.zero_add]
        show Fl.nx ⟨[some (.val (kern n (xs.map Stm.pv) (bs.map PV.int))), some (.own (.lst (accs 0 (xs.take i) ++ accOf i x))), some (.val (.int (i : Int))), some (.val (x.pv))], []⟩ = Fl.nx ⟨[some (.val (kern n (xs.map Stm.pv) (bs.map PV.int))), some (.own (.lst (accs 0 (xs.take i) ++ (accOf i x ++ [])))), some (.val (.int (i : Int))), some (.val (x.pv))], []⟩
        rw [List.append_nil]
      rw [Nat.zero_add]
      show l_access_list_1c ⟨[some (.val (kern n (xs.map Stm.pv) (bs.map PV.int))), some (.own (.lst (accs 0 (xs.take i)))), some (.val (.int (i : Int))), some (.val (x.pv))], []⟩ = _
      unfold l_access_list_1c
      rw [seq_nx t]
      rfl)
  have t1 : q_access_list_1 ⟨[some (.val (kern n (xs.map Stm.pv) (bs.map PV.int))), none, none, none], []⟩ = .nx ⟨[some (.val (kern n (xs.map Stm.pv) (bs.map PV.int))), some (.own (.lst ([]))), none, none], []⟩ := rfl
  have hlen : 0 + (enumP (xs.map Stm.pv)).length = xs.length := by rw [enumP_len, List.length_map, Nat.zero_add]
  rw [hlen, List.take_length] at e2
  have t2 : q_access_list_2 ⟨[some (.val (kern n (xs.map Stm.pv) (bs.map PV.int))), some (.own (.lst ([]))), none, none], []⟩ = .nx ⟨[some (.val (kern n (xs.map Stm.pv) (bs.map PV.int))), some (.own (.lst (accs 0 xs))), x2, x3], []⟩ := e2
  have t3 : q_access_list_3 ⟨[some (.val (kern n (xs.map Stm.pv) (bs.map PV.int))), some (.own (.lst (accs 0 xs))), x2, x3], []⟩ = .rt (.lst (accs 0 xs)) ⟨[some (.val (kern n (xs.map Stm.pv) (bs.map PV.int))), none, x2, x3], []⟩ := rfl
  unfold m_access_list
  rw [g_access_list_eq]
  simp only [mOf, start0, List.map_cons, List.map_nil, List.length_cons, List.length_nil, Nat.reduceAdd, Nat.reduceSub, List.replicate, List.cons_append, List.nil_append]
  rw [seq_nx t1, seq_nx t2, seq_rt t3]
  rfl
/-! ### phases -/
/-! ### other barriers, sums -/
end
end PM
/-! PCR: plain maths of the crossing of two rows of lanes. -/
namespace PM
open PySem PySem.Spec PyProof.Rows L2 PL PN
/-- the least and the greatest t for which a + k * t lies from 0 to m - 1 -/
def rLo (a k m : Int) : Int := if k < 0 then -((m - 1 - a) / -k) else -(a / k)
def rHi (a k m : Int) : Int := if k < 0 then (m - 1 - (m - 1 - a)) / -k else (m - 1 - a) / k
end PM
/-! PCN: plain maths of pairs of lanes counted; statements that touch. -/
namespace PM
open PySem PySem.Spec PyProof.Rows L2 PL PN
theorem nodup_le {α : Type} [DecidableEq α] : ∀ {l m : List α}, l.Nodup → l ⊆ m → l.length ≤ m.length
  | [], _, _, _ => Nat.zero_le _
  | x :: l, m, hn, hs => by
    obtain ⟨h1, h2⟩ := List.nodup_cons.mp hn
    have hx : x ∈ m := hs List.mem_cons_self
    have hl : l ⊆ m.erase x := fun y hy => by
      have : y ≠ x := fun e => h1 (e ▸ hy)
      exact (List.mem_erase_of_ne this).mpr (hs (List.mem_cons_of_mem _ hy))
    have := nodup_le h2 hl
    rw [List.length_erase_of_mem hx] at this
    have := List.length_pos_of_mem hx
    rw [List.length_cons]
    omega
/-! ### statements that touch -/
structure Ac where
  w : Bool
  z : Str
  a : Int
  b : Int
def Stm.ac (x : Stm) : List Ac := match x.k with
  | .put _ _ => [⟨true, x.z, x.a, x.b⟩]
  | .move z2 c d _ => [⟨false, z2, c, d⟩, ⟨true, x.z, x.a, x.b⟩]
  | .sum z2 c d z3 e f => [⟨false, z2, c, d⟩, ⟨false, z3, e, f⟩, ⟨true, x.z, x.a, x.b⟩]
def Stm.val (x : Stm) : Option (Int × Int) := match x.k with
  | .put c d => some (c, d)
  | _ => none
/-! ### the same far out -/
end PM
/-! PCW: bezout of any two numbers; the crossing of two rows, walked. -/
namespace PM
open PySem PySem.Spec PyProof.Rows L2 PL PN
local macro_rules | `(tactic| walk_at "ev") => `(tactic| try simp only [mOf, endF, start0, gSeq, gNop, gAsg, gRet, gRetO, gAsgO, gDrop, gIf, gOpt, gPar, gPar3, gAug, aName, asNil, asCons, aTup, aLst, setV, setO, eVar, eC, eBin, eUn, eTup, aNil, aCons, oLst, frz, eCall, oCall, avN, avK, permL, lNil, lPv, lSl, tOf, tTru, tNt, tAn, tOrr, eIf, eAn, eOr, eNt, eChain, eCallB, eIxM, gSetIx, getM, pTru, pAdd, pSub, pMul, pFdiv, pMod, pPow, pNeg, pLt, pLe, pGt, pGe, pIs, pIsNot, pAddI, pIx, pLen, pAbs, pMax2, pMin2, Res.bind_ok, Res.bind_ex, Res.bind_stuck, Res.fl_ok, Res.fl_ex, Res.fl_stuck, Res.opt_some, Res.opt_none, lowerA, PL.keyOf, getK, getAll, setAll, setK, distinct, List.map_cons, List.map_nil, List.length_cons, List.length_nil, List.replicate, List.cons_append, List.nil_append, List.append_nil, List.getElem?_cons_zero, List.getElem?_cons_succ, List.getElem?_nil, List.set_cons_zero, List.set_cons_succ, List.filterMap_cons, List.filterMap_nil, Option.bind_some, Option.map_some, Option.elim_some, if_true, if_false, Nat.reduceAdd, Nat.reduceSub, Nat.reduceEqDiff, Nat.reduceLeDiff, ↓reduceIte, Bool.false_eq_true, at0, at1, at2, at3, pEq, pNe, eqB_int, Option.some.injEq, decide_true, decide_false, not_true_eq_false, not_false_eq_true, Bool.and_true, ne_eq, reduceCtorEq, Bool.true_eq_false, Bool.not_true, Bool.not_false, frz, noEx, wipeS, wipeR, backS, backR, keepV, oComp, gFor, iAny, iRange1, iRange2, iRange3, iRangeW1, iRangeW2, eCallQ, oRgW2, oRgW, pInt1, iEnumQ, eDct, iTxt, eFld, eMake, gSetFld, eFldM, eTupV, putP, eLenSet, gFrz, Nat.reduceLT, oRg2, oRg1, oRg, tYesD, pIn, pNotIn, eSl, pNo, pSo, forL_nil, gApp, gParO, List.not_mem_nil, List.not_mem_nil])
local macro_rules | `(tactic| walk_at "evs") => `(tactic| simp only [*, mOf, endF, start0, gSeq, gNop, gAsg, gRet, gRetO, gAsgO, gDrop, gIf, gOpt, gPar, gPar3, gAug, aName, asNil, asCons, aTup, aLst, setV, setO, eVar, eC, eBin, eUn, eTup, aNil, aCons, oLst, frz, eCall, oCall, avN, avK, permL, lNil, lPv, lSl, tOf, tTru, tNt, tAn, tOrr, eIf, eAn, eOr, eNt, eChain, eCallB, eIxM, gSetIx, getM, pTru, pAdd, pSub, pMul, pFdiv, pMod, pPow, pNeg, pLt, pLe, pGt, pGe, pIs, pIsNot, pAddI, pIx, pLen, pAbs, pMax2, pMin2, Res.bind_ok, Res.bind_ex, Res.bind_stuck, Res.fl_ok, Res.fl_ex, Res.fl_stuck, Res.opt_some, Res.opt_none, lowerA, PL.keyOf, getK, getAll, setAll, setK, distinct, List.map_cons, List.map_nil, List.length_cons, List.length_nil, List.replicate, List.cons_append, List.nil_append, List.append_nil, List.getElem?_cons_zero, List.getElem?_cons_succ, List.getElem?_nil, List.set_cons_zero, List.set_cons_succ, List.filterMap_cons, List.filterMap_nil, Option.bind_some, Option.map_some, Option.elim_some, if_true, if_false, Nat.reduceAdd, Nat.reduceSub, Nat.reduceEqDiff, Nat.reduceLeDiff, ↓reduceIte, Bool.false_eq_true, at0, at1, at2, at3, pEq, pNe, eqB_int, Option.some.injEq, decide_true, decide_false, not_true_eq_false, not_false_eq_true, Bool.and_true, ne_eq, reduceCtorEq, Bool.true_eq_false, Bool.not_true, Bool.not_false, frz, noEx, wipeS, wipeR, backS, backR, keepV, oComp, gFor, iAny, iRange1, iRange2, iRange3, iRangeW1, iRangeW2, eCallQ, oRgW2, oRgW, pInt1, iEnumQ, eDct, iTxt, eFld, eMake, gSetFld, eFldM, eTupV, putP, eLenSet, gFrz, Nat.reduceLT, oRg2, oRg1, oRg, tYesD, pIn, pNotIn, eSl, pNo, pSo, forL_nil, gApp, gParO, List.not_mem_nil, List.not_mem_nil, eq_self, not_true_eq_false, not_false_eq_true, ix30, ix31, ix32, Bool.and_self, and_self, and_true, true_and])
/-! ### bezout of any two numbers -/
structure BzG (a b B f s x y : Int) : Prop where
  f0 : 0 < f
  s0 : 0 ≤ s
  dv : ∀ d, d ∣ f → d ∣ s → d ∣ a ∧ d ∣ b
  u1 : ∃ u, f = a * x + b * u
  u2 : ∃ u, s = a * y + b * u
  sg : ∃ e X Y : Int, (e = 1 ∨ e = -1) ∧ x = e * X ∧ y = -(e * Y) ∧ 0 ≤ X ∧ 0 ≤ Y ∧ X ≤ B ∧ X * s + Y * f = B
theorem BzG.next {a b B f s x y : Int} (i : BzG a b B f s x y) (hs : 0 < s) : BzG a b B s (f - f / s * s) y (x - f / s * y) := by
  have hm : f - f / s * s = f % s := by rw [Int.emod_def, Int.mul_comm]
  have t0 : 0 ≤ f / s := Int.ediv_nonneg (Int.le_of_lt i.f0) i.s0
  refine ⟨hs, ?_, ?_, i.u2, ?_, ?_⟩
  · rw [hm]; exact Int.emod_nonneg _ (by omega)
  · intro d h1 h2
    refine i.dv d ?_ h1
    have : f = (f - f / s * s) + f / s * s := by omega
    rw [this]
    exact Int.dvd_add h2 ((show d ∣ f / s * s from Int.dvd_trans h1 (Int.dvd_mul_left _ _)))
  · obtain ⟨u, hu⟩ := i.u1
    obtain ⟨v, hv⟩ := i.u2
    refine ⟨u - f / s * v, ?_⟩
    generalize f / s = t at *
    subst hu hv
    grind
  · obtain ⟨e, X, Y, he, hx, hy, hX, hY, hb, hq⟩ := i.sg
    refine ⟨-e, Y, X + f / s * Y, by omega, by grind, ?_, hY, ?_, ?_, ?_⟩
    · generalize f / s = t at *
      subst hx hy
      grind
    · have := Int.mul_nonneg t0 hY; omega
    · have h1 : 0 ≤ X * s := Int.mul_nonneg hX i.s0
      have h2 : Y * 1 ≤ Y * f := Int.mul_le_mul_of_nonneg_left i.f0 hY
      omega
    · generalize f / s = t at *
      grind
end PM
/-! PCX: the crossing of two rows, walked. -/
namespace PM
open PySem PySem.Spec PyProof.Rows L2 PL PN
local macro_rules | `(tactic| walk_at "ev") => `(tactic| try simp only [mOf, endF, start0, gSeq, gNop, gAsg, gRet, gRetO, gAsgO, gDrop, gIf, gOpt, gPar, gPar3, gAug, aName, asNil, asCons, aTup, aLst, setV, setO, eVar, eC, eBin, eUn, eTup, aNil, aCons, oLst, frz, eCall, oCall, avN, avK, permL, lNil, lPv, lSl, tOf, tTru, tNt, tAn, tOrr, eIf, eAn, eOr, eNt, eChain, eCallB, eIxM, gSetIx, getM, pTru, pAdd, pSub, pMul, pFdiv, pMod, pPow, pNeg, pLt, pLe, pGt, pGe, pIs, pIsNot, pAddI, pIx, pLen, pAbs, pMax2, pMin2, Res.bind_ok, Res.bind_ex, Res.bind_stuck, Res.fl_ok, Res.fl_ex, Res.fl_stuck, Res.opt_some, Res.opt_none, lowerA, PL.keyOf, getK, getAll, setAll, setK, distinct, List.map_cons, List.map_nil, List.length_cons, List.length_nil, List.replicate, List.cons_append, List.nil_append, List.append_nil, List.getElem?_cons_zero, List.getElem?_cons_succ, List.getElem?_nil, List.set_cons_zero, List.set_cons_succ, List.filterMap_cons, List.filterMap_nil, Option.bind_some, Option.map_some, Option.elim_some, if_true, if_false, Nat.reduceAdd, Nat.reduceSub, Nat.reduceEqDiff, Nat.reduceLeDiff, ↓reduceIte, Bool.false_eq_true, at0, at1, at2, at3, pEq, pNe, eqB_int, Option.some.injEq, decide_true, decide_false, not_true_eq_false, not_false_eq_true, Bool.and_true, ne_eq, reduceCtorEq, Bool.true_eq_false, Bool.not_true, Bool.not_false, frz, noEx, wipeS, wipeR, backS, backR, keepV, oComp, gFor, iAny, iRange1, iRange2, iRange3, iRangeW1, iRangeW2, eCallQ, oRgW2, oRgW, pInt1, iEnumQ, eDct, iTxt, eFld, eMake, gSetFld, eFldM, eTupV, putP, eLenSet, gFrz, Nat.reduceLT, oRg2, oRg1, oRg, tYesD, pIn, pNotIn, eSl, pNo, pSo, forL_nil, gApp, gParO, List.not_mem_nil, List.not_mem_nil])
local macro_rules | `(tactic| walk_at "evs") => `(tactic| simp only [*, mOf, endF, start0, gSeq, gNop, gAsg, gRet, gRetO, gAsgO, gDrop, gIf, gOpt, gPar, gPar3, gAug, aName, asNil, asCons, aTup, aLst, setV, setO, eVar, eC, eBin, eUn, eTup, aNil, aCons, oLst, frz, eCall, oCall, avN, avK, permL, lNil, lPv, lSl, tOf, tTru, tNt, tAn, tOrr, eIf, eAn, eOr, eNt, eChain, eCallB, eIxM, gSetIx, getM, pTru, pAdd, pSub, pMul, pFdiv, pMod, pPow, pNeg, pLt, pLe, pGt, pGe, pIs, pIsNot, pAddI, pIx, pLen, pAbs, pMax2, pMin2, Res.bind_ok, Res.bind_ex, Res.bind_stuck, Res.fl_ok, Res.fl_ex, Res.fl_stuck, Res.opt_some, Res.opt_none, lowerA, PL.keyOf, getK, getAll, setAll, setK, distinct, List.map_cons, List.map_nil, List.length_cons, List.length_nil, List.replicate, List.cons_append, List.nil_append, List.append_nil, List.getElem?_cons_zero, List.getElem?_cons_succ, List.getElem?_nil, List.set_cons_zero, List.set_cons_succ, List.filterMap_cons, List.filterMap_nil, Option.bind_some, Option.map_some, Option.elim_some, if_true, if_false, Nat.reduceAdd, Nat.reduceSub, Nat.reduceEqDiff, Nat.reduceLeDiff, ↓reduceIte, Bool.false_eq_true, at0, at1, at2, at3, pEq, pNe, eqB_int, Option.some.injEq, decide_true, decide_false, not_true_eq_false, not_false_eq_true, Bool.and_true, ne_eq, reduceCtorEq, Bool.true_eq_false, Bool.not_true, Bool.not_false, frz, noEx, wipeS, wipeR, backS, backR, keepV, oComp, gFor, iAny, iRange1, iRange2, iRange3, iRangeW1, iRangeW2, eCallQ, oRgW2, oRgW, pInt1, iEnumQ, eDct, iTxt, eFld, eMake, gSetFld, eFldM, eTupV, putP, eLenSet, gFrz, Nat.reduceLT, oRg2, oRg1, oRg, tYesD, pIn, pNotIn, eSl, pNo, pSo, forL_nil, gApp, gParO, List.not_mem_nil, List.not_mem_nil, eq_self, not_true_eq_false, not_false_eq_true, ix30, ix31, ix32, Bool.and_self, and_self, and_true, true_and])
section
variable {st st1 s1 s2 : Stt} {fa fb fc : Stt → Res PV} {p q r : PV} {i j k : Int}
theorem eq_t (ha : fa st = .ok (.int i) st) (hb : fb st = .ok (.int j) st) : tOf (eBin pEq fa fb) st = .ok (i == j) st := by
  simp only [tOf, eBin, ha, hb, Res.bind_ok, pEq, eqB_int, Option.map_some, Res.opt_some]
theorem gt_t (ha : fa st = .ok (.int i) st) (hb : fb st = .ok (.int j) st) : tOf (eBin pGt fa fb) st = .ok (decide (i > j)) st := by
  simp only [tOf, eBin, ha, hb, Res.bind_ok, pGt, Res.opt_some]
theorem or_t {f g : Stt → Res Bool} {b c : Bool} (h : f st = .ok b st) (k : g st = .ok c st) : tOrr f g st = .ok (b || c) st := by
  cases b <;> simp only [tOrr, h, k, Res.bind_ok, Bool.false_eq_true, if_false, if_true, Bool.true_or, Bool.false_or]
theorem if_yes {ft : Stt → Res Bool} {g h : Stt → Fl} (t : ft st = .ok true st1) : gIf ft g h st = g st1 := by
  simp only [gIf, t, Res.fl, if_true]
theorem acons_at {fs : Stt → Res (List PV)} {l : List PV} (h1 : fa st = .ok p s1) (h2 : fs s1 = .ok l s2) : aCons fa fs st = .ok (p :: l) s2 := by
  unfold aCons
  rw [h1]
  simp only [Res.bind_ok, h2]
theorem tup_at {fl : Stt → Res (List PV)} {l : List PV} (ha : fl st = .ok l s1) (h : l.length ≤ 16777216) : eTup fl st = .ok (.tup l) s1 := by
  unfold eTup
  rw [ha]
  simp only [Res.bind_ok]
  rw [if_pos h]
theorem asgG_at {t : PV → Stt → Option Stt} (ha : fa st = .ok p s1) (h : t p s1 = some s2) : gAsg fa t st = .nx s2 := by
  unfold gAsg
  rw [ha]
  simp only [Res.fl, h, gOpt]
theorem par_at {fl : Stt → Res (List PV)} {a b : Nat} (ha : fl st = .ok [p, q] s1) (h : setV b q (setV a p s1) = s2) : gPar a b fl st = .nx s2 := by
  unfold gPar
  rw [ha, ← h]
  rfl
theorem call3v {m : List SV → List MO → FRes} {v : PV} (h1 : fa st = .ok p st) (h2 : fb st = .ok q st) (h3 : fc st = .ok r st) (e : m [.val p, .val q, .val r] [] = .ok v []) : eCall m (avN 3 (lPv fa (lPv fb (lPv fc lNil)))) st = .ok v st := by
  simp only [eCall, avN, lPv, lNil, h1, h2, h3, Res.bind_ok, List.length_cons, List.length_nil, Nat.reduceAdd, if_true, lowerA, distinct, getAll, setAll, e]
theorem callB1_at {op : List PV → Option PV} (ha : fa st = .ok p st) (h : op [p] = some r) : eCallB op (aCons fa aNil) st = .ok r st := by
  have q : aCons fa aNil st = .ok [p] st := acons_at ha rfl
  unfold eCallB
  rw [q]
  simp only [Res.bind_ok, h, Res.opt_some]
theorem comp_at {vs : List Nat} {fi : Stt → Res (List PV)} {a : PV → Stt → Option Stt} {ft : Stt → Res Bool} {fe : Stt → Res PV} {l out : List PV} (hi : fi st = .ok l st) (h : compL vs a ft fe l [] (wipeS vs st) = .ok out s1) (hb : backS vs st s1 = s2) : frz (oComp vs fi a ft fe) st = .ok (.lst out) s2 := by
  unfold frz oComp
  rw [hi]
  simp only [Res.bind_ok, h, noEx, hb]
end
theorem allInt_map : ∀ ns : List Int, allInt (ns.map PV.int) = some ns
  | [] => rfl
  | n :: ns => by
    rw [List.map_cons]
    unfold allInt
    rw [allInt_map ns]
    rfl
theorem up {x : Int} {m n : Nat} (h : x.natAbs < 2 ^ m) (hn : m ≤ n) : x.natAbs < 2 ^ n := Nat.lt_of_lt_of_le h (Nat.pow_le_pow_right (by decide) hn)
section
variable {g1 g2 : PV} {a b a2 b2 f1 s1 m1 f2 s2 m2 T1 T2 P d f x y xs ys : Int}
def bl (x xs m1 y ys m2 : Int) : List PV := (if xs = 0 then [] else [.tup [.int (rLo x xs m1), .int (rHi x xs m1)]]) ++ (if ys = 0 then [] else [.tup [.int (rLo y ys m2), .int (rHi y ys m2)]])
end
end PM
/-! PL50: comprehensions over mapped lists, loops over them. -/
namespace PM
open PySem PySem.Spec PyProof.Rows L2 PL PN
/-- the elements of a comprehension that keeps what asks for it -/
theorem compL_F {α : Type} {vs : List Nat} {a : PV → Stt → Option Stt} {ft : Stt → Res Bool} {fe : Stt → Res PV} {s : Stt} (g f : α → PV) (q : α → Bool) : ∀ (l : List α) (acc : List PV), acc.length + l.length ≤ 16777216 →
    (∀ x ∈ l, ∃ s1 s2, a (g x) s = some s1 ∧ ft s1 = .ok (q x) s2 ∧ (q x = false → wipeS vs s2 = s) ∧ (q x = true → ∃ s3, fe s2 = .ok (f x) s3 ∧ wipeS vs s3 = s)) →
    compL vs a ft fe (l.map g) acc s = .ok (acc ++ (l.filter q).map f) s
  | [], acc, _, _ => by simp [compL]
  | x :: r, acc, hl, h => by
    rw [List.length_cons] at hl
    obtain ⟨s1, s2, e1, e2, e3, e4⟩ := h x List.mem_cons_self
    rw [List.map_cons, compL_cons _ _ _ _ _ _ _ _ _ e1, e2, List.filter_cons]
    by_cases c : q x = true
    · obtain ⟨s3, e5, e6⟩ := e4 c
      rw [if_pos c]
      simp only [Res.bind_ok, c, if_true, e5]
      rw [if_pos (by omega), e6, compL_F g f q r (acc ++ [f x]) (by rw [List.length_append, List.length_singleton]; omega) fun y hy => h y (List.mem_cons_of_mem _ hy)]
      simp
    · have c := Bool.eq_false_iff.mpr c
      rw [c]
      simp only [Res.bind_ok, Bool.false_eq_true, if_false]
      rw [e3 c, compL_F g f q r acc (by omega) fun y hy => h y (List.mem_cons_of_mem _ hy)]
theorem filter_yes {α : Type} (l : List α) : l.filter (fun _ => true) = l := List.filter_eq_self.mpr fun _ _ => rfl
theorem compL_M {α : Type} {vs : List Nat} {a : PV → Stt → Option Stt} {fe : Stt → Res PV} {s : Stt} (g f : α → PV) (l : List α) (hl : l.length ≤ 16777216)
    (h : ∀ x ∈ l, ∃ s1, a (g x) s = some s1 ∧ ∃ s3, fe s1 = .ok (f x) s3 ∧ wipeS vs s3 = s) : compL vs a tYesD fe (l.map g) [] s = .ok (l.map f) s := by
  have := compL_F (vs := vs) (a := a) (ft := tYesD) (fe := fe) (s := s) g f (fun _ => true) l [] (by rw [List.length_nil]; omega) fun x hx => by
    obtain ⟨s1, e1, s3, e2, e3⟩ := h x hx
    exact ⟨s1, s1, e1, rfl, fun c => (Bool.noConfusion c), fun _ => ⟨s3, e2, e3⟩⟩
  rw [this, filter_yes, List.nil_append]
theorem sl_lM {st : Stt} {fa : Stt → Res PV} {fl fh : Stt → Res (Option Int)} {l : List PV} {lo hi : Option Int} (ha : fa st = .ok (.lst l) st) (hl : fl st = .ok lo st) (hh : fh st = .ok hi st) : eSl fa fl fh st = .ok (.lst (pCut l lo hi)) st := by
  unfold eSl
  rw [ha]
  simp only [Res.bind_ok, hl, hh]
end PM
/-! PCY: crossing_of. -/
namespace PM
open PySem PySem.Spec PyProof.Rows L2 PL PN
/-- a guard and a cell of bounded size -/
structure AccB (l h s r a b : Int) : Prop where
  g : isGuard l h s r = true
  bh : h.natAbs < 2 ^ 1000
  bs : s.natAbs < 2 ^ 1000
  ba : a.natAbs < 2 ^ 1000
  bb : b.natAbs < 2 ^ 1000
end PM
/-! PCT: pairs counted, accesses and statements that touch. -/
namespace PM
open PySem PySem.Spec PyProof.Rows L2 PL PN
section
variable {l1 h1 s1 r1 a b l2 h2 s2 r2 a2 b2 c d c2 d2 : Int}
theorem AccB.s0 {l h s r a b : Int} (p : AccB l h s r a b) : 0 < s ∧ 0 ≤ r ∧ r < s := by
  obtain ⟨l0, lh, r0, r1⟩ := guard_iff.mp p.g
  omega
theorem AccB.okd {l h s r a b : Int} (p : AccB l h s r a b) : okDiv s = true := okDiv_of (by have := p.s0; omega) p.bs (by decide) (by decide)
end
end PM
/-! PCT2: accesses and statements that touch. -/
namespace PM
open PySem PySem.Spec PyProof.Rows L2 PL PN
theorem tru_t {st : Stt} {fa : Stt → Res PV} {z : Bool} (h : fa st = .ok (.bl z) st) : tTru fa st = .ok z st := by
  simp only [tTru, h, Res.bind_ok, pTru, Res.opt_some]
theorem any_i {st : Stt} {fa : Stt → Res PV} {l : List PV} (h : fa st = .ok (.lst l) st) : iAny fa st = .ok l st := by
  simp only [iAny, h, Res.bind_ok]
def Ac.word (p : Ac) : Str := if p.w then "write" else "read"
def Ac.pv (i : Int) (p : Ac) : PV := .tup [.int i, .str p.word, .str p.z, .int p.a, .int p.b]
theorem accOf_ac (i : Int) (x : Stm) : accOf i x = x.ac.map (Ac.pv i) := by
  obtain ⟨l, h, s, r, z, a, b, k⟩ := x
  cases k <;> rfl
theorem e_part_in {n : Int} {xs : List Stm} {bars : List PV} {i : Int} {x : Stm} (hx : atI (xs.map Stm.pv) i = some x.pv) (p : Ac) : m_part_in [.val (kern n (xs.map Stm.pv) bars), .val (Ac.pv i p)] [] = .ok (.tup [gt x.l x.h x.s x.r, .int p.a, .int p.b]) [] := by
  have t1 : q_part_in_1 ⟨[some (.val (kern n (xs.map Stm.pv) bars)), some (.val (Ac.pv i p))], []⟩ = .rt (.tup [gt x.l x.h x.s x.r, .int p.a, .int p.b]) ⟨[some (.val (kern n (xs.map Stm.pv) bars)), some (.val (Ac.pv i p))], []⟩ := by
    unfold q_part_in_1
    refine ret_at (tup_at (acons_at (bin_at (p := x.pv) (bin_at (p := .tup (xs.map Stm.pv)) (q := .int i) rfl (bin_at rfl rfl (at0 _ _)) hx) rfl (ix1 x)) (acons_at (bin_at rfl rfl (at3 _ _ _ _ _)) (acons_at (bin_at rfl rfl ?_) rfl))) (by show (3 : Nat) ≤ 16777216; decide))
    exact atI_at (i := 4) rfl
  unfold m_part_in
  rw [g_part_in_eq]
  simp only [mOf, start0, List.map_cons, List.map_nil, List.length_cons, List.length_nil, Nat.reduceAdd, Nat.reduceSub, List.replicate, List.cons_append, List.nil_append]
  rw [seq_rt t1]
  rfl
/-! ### two fors -/
end PM
/-! PCK: plain maths: pairs of lanes counted, also by waves. -/
namespace PM
open PySem PySem.Spec PyProof.Rows L2 PL PN
theorem nodup_len {α : Type} [DecidableEq α] {l m : List α} (hl : l.Nodup) (hm : m.Nodup) (h : ∀ x, x ∈ l ↔ x ∈ m) : l.length = m.length :=
  Nat.le_antisymm (nodup_le hl fun x hx => (h x).mp hx) (nodup_le hm fun x hx => (h x).mpr hx)
/-! ### waves -/
/-! ### pairs with a difference -/
end PM
/-! PDG: the degree of a wave: the greatest number of different cells in one bank. -/
namespace PN
open PL
def degF (m y b : Int) : Int := if m = 0 ∨ y = 0 then min m 1 else (m + spread b y - 1) / spread b y
/-- how many numbers below m have one remainder -/
theorem cnt_mod {t k : Nat} (hk : k < t) : ∀ m : Nat, (List.range m).countP (fun i => i % t == k) = (m + (t - 1 - k)) / t
  | 0 => by
    rw [List.range_zero, List.countP_nil, Nat.zero_add, Nat.div_eq_of_lt (by omega)]
  | m + 1 => by
    rw [List.range_succ, List.countP_append, cnt_mod hk m, List.countP_singleton]
    have hm := Nat.div_add_mod m t
    have hr := Nat.mod_lt m (show 0 < t by omega)
    generalize m / t = q at hm
    generalize m % t = r at hm hr
    have e : ∀ d : Nat, (m + d) / t = q + (r + d) / t := fun d => by
      rw [← hm, Nat.add_assoc, Nat.mul_add_div (by omega)]
    rw [e, show m + 1 + (t - 1 - k) = m + (1 + (t - 1 - k)) by omega, e]
    by_cases c : r = k
    · subst c
      rw [beq_self_eq_true, if_pos rfl, Nat.div_eq_of_lt (by omega), show r + (1 + (t - 1 - r)) = t by omega, Nat.div_self (by omega)]
    · rw [beq_eq_false_iff_ne.mpr c, if_neg (by decide)]
      by_cases d : r < k
      · rw [Nat.div_eq_of_lt (by omega), Nat.div_eq_of_lt (by omega)]
      · have f : ∀ x : Nat, t ≤ x → x < 2 * t → x / t = 1 := fun x h1 h2 => Nat.div_eq_of_lt_le (by omega) (by omega)
        rw [f _ (by omega) (by omega), f _ (by omega) (by omega)]
theorem bz (m n : Nat) : ∃ x y : Int, (m : Int) * x + (n : Int) * y = (Nat.gcd m n : Int) := by
  induction m, n using Nat.gcd.induction with
  | H0 n => exact ⟨0, 1, by rw [Nat.gcd_zero_left]; omega⟩
  | H1 m n hm ih =>
    obtain ⟨x, y, h⟩ := ih
    rw [Nat.gcd_rec m n]
    refine ⟨y - (n / m : Int) * x, x, ?_⟩
    rw [← h]
    have e : ((n % m : Nat) : Int) = n - m * (n / m : Int) := by
      have := Int.emod_add_mul_ediv (n : Int) m
      rw [Int.natCast_emod]
      omega
    rw [e]
    grind
theorem bzI (y b : Int) : ∃ u v : Int, y * u + b * v = (Int.gcd y b : Int) := by
  obtain ⟨u, v, h⟩ := bz y.natAbs b.natAbs
  have e : (Nat.gcd y.natAbs b.natAbs : Int) = (Int.gcd y b : Int) := rfl
  rw [e] at h
  rcases Int.natAbs_eq y with h1 | h1 <;> rcases Int.natAbs_eq b with h2 | h2
  · exact ⟨u, v, by rw [h1, h2]; exact h⟩
  · refine ⟨u, -v, ?_⟩
    rw [← h, show b * -v = (b.natAbs : Int) * v by rw [Int.mul_neg, ← Int.neg_mul]; congr 1; omega]
    congr 2
  · refine ⟨-u, v, ?_⟩
    rw [← h, show y * -u = (y.natAbs : Int) * u by rw [Int.mul_neg, ← Int.neg_mul]; congr 1; omega]
    congr 2
  · refine ⟨-u, -v, ?_⟩
    rw [← h, show b * -v = (b.natAbs : Int) * v by rw [Int.mul_neg, ← Int.neg_mul]; congr 1; omega, show y * -u = (y.natAbs : Int) * u by rw [Int.mul_neg, ← Int.neg_mul]; congr 1; omega]
/-- two cells of a row are in one bank exactly if their numbers are alike modulo the spread -/
theorem same_bank {y b c : Int} (hb : 0 < b) (hy : y ≠ 0) (i j : Nat) : (c + y * (i : Int)) % b = (c + y * (j : Int)) % b ↔ i % (spread b y).toNat = j % (spread b y).toNat := by
  have s0 := spread_pos (l := y) hb
  have g0 := gcd_pos (l := y) hb
  have hs := spread_mul (l := y) (b := b)
  obtain ⟨u, v, huv⟩ := bzI y b
  obtain ⟨y', hy'⟩ : (Int.gcd y b : Int) ∣ y := Int.gcd_dvd_left ..
  generalize spread b y = t at *
  generalize (Int.gcd y b : Int) = g at *
  have one : y' * u + t * v = 1 := by
    have : g * (y' * u + t * v) = g * 1 := by
      rw [Int.mul_add, ← Int.mul_assoc, ← Int.mul_assoc, ← hy', hs, huv, Int.mul_one]
    exact Int.eq_of_mul_eq_mul_left (by omega) this
  have e1 : (c + y * (i : Int)) % b = (c + y * (j : Int)) % b ↔ b ∣ y * ((i : Int) - j) := by
    rw [Int.emod_eq_emod_iff_emod_sub_eq_zero, ← Int.dvd_iff_emod_eq_zero, show c + y * (i : Int) - (c + y * (j : Int)) = y * ((i : Int) - j) by rw [Int.mul_sub]; omega]
  have e2 : b ∣ y * ((i : Int) - j) ↔ t ∣ ((i : Int) - j) := by
    constructor
    · rintro ⟨k, hk⟩
      have h1 : g * (y' * ((i : Int) - j)) = g * (t * k) := by rw [← Int.mul_assoc, ← hy', ← Int.mul_assoc, hs, hk]
      have h2 : y' * ((i : Int) - j) = t * k := Int.eq_of_mul_eq_mul_left (by omega) h1
      refine ⟨u * k + v * ((i : Int) - j), ?_⟩
      generalize ((i : Int) - j) = d at *
      have : d = (y' * u + t * v) * d := by rw [one, Int.one_mul]
      have h3 : (y' * u + t * v) * d = u * (y' * d) + t * (v * d) := by grind
      rw [this, h3, h2]
      grind
    · rintro ⟨k, hk⟩
      refine ⟨y' * k, ?_⟩
      rw [hk, hy', ← hs]
      grind
  rw [e1, e2]
  have e3 : i % t.toNat = j % t.toNat ↔ ((i : Int)) % t = (j : Int) % t := by
    obtain ⟨T, hT⟩ := Int.eq_ofNat_of_zero_le (show 0 ≤ t by omega)
    rw [hT, Int.toNat_natCast, ← Int.natCast_emod, ← Int.natCast_emod]
    exact ⟨fun h => by rw [h], fun h => by exact_mod_cast h⟩
  rw [e3, Int.emod_eq_emod_iff_emod_sub_eq_zero, ← Int.dvd_iff_emod_eq_zero]
/-- the greatest of some counts -/
theorem maxI_is {l : List Int} {v : Int} (h : v ∈ l) (hl : ∀ y ∈ l, y ≤ v) : maxI l = v := by
  have ne : l ≠ [] := fun z => by rw [z] at h; cases h
  obtain ⟨a, b⟩ := maxI_mem ne
  have := b v h
  have := hl _ a
  omega
theorem perm_sortU {ns : List Int} (h : ns.Nodup) : (sortU ns).Perm ns :=
  (List.perm_ext_iff_of_nodup ((asc_sortU ns).imp fun h => by omega) h).mpr fun k => mem_sortU
/-- the degree by cells -/
def degL (cells : List Int) (b : Int) : Int := maxI (0 :: ((sortU cells).map (· % b)).map fun p => ((((sortU cells).map (· % b)).count p : Nat) : Int))
theorem degL_row {c y b : Int} (hb : 0 < b) (hy : y ≠ 0) (m : Nat) : degL ((List.range m).map fun i : Nat => c + y * (i : Int)) b = degF m y b := by
  have s0 := spread_pos (l := y) hb
  obtain ⟨t, ht⟩ : ∃ t : Nat, t = (spread b y).toNat := ⟨_, rfl⟩
  have t0 : 0 < t := by omega
  have nd : ((List.range m).map fun i : Nat => c + y * (i : Int)).Nodup := by
    refine List.pairwise_map.mpr ((List.nodup_range (n := m)).imp fun {i j} h e => h ?_)
    have : y * (i : Int) = y * (j : Int) := by omega
    have := Int.eq_of_mul_eq_mul_left hy this
    omega
  have pm := (perm_sortU nd).map (· % b)
  obtain ⟨ps, hps⟩ : ∃ ps, ps = (sortU ((List.range m).map fun i : Nat => c + y * (i : Int))).map (· % b) := ⟨_, rfl⟩
  rw [← hps, List.map_map] at pm
  have cnt : ∀ j : Nat, (ps.count ((c + y * (j : Int)) % b)) = (m + (t - 1 - j % t)) / t := fun j => by
    rw [pm.count_eq, List.count_eq_countP, List.countP_map, ← cnt_mod (Nat.mod_lt j t0) m]
    refine List.countP_congr fun i _ => ?_
    show ((c + y * (i : Int)) % b == (c + y * (j : Int)) % b) = true ↔ _
    rw [beq_iff_eq, beq_iff_eq, same_bank hb hy, ht]
  unfold degL degF
  rw [← hps]
  by_cases hm : m = 0
  · subst hm
    have : ps = [] := by
      have := pm.length_eq
      exact List.length_eq_zero_iff.mp this
    rw [this, if_pos (.inl rfl)]
    rfl
  · rw [if_neg (by omega)]
    have top : (((m + (t - 1)) / t : Nat) : Int) = ((m : Int) + spread b y - 1) / spread b y := by
      rw [show spread b y = (t : Int) by omega, Int.natCast_ediv]
      congr 1
      omega
    rw [← top]
    refine maxI_is (List.mem_cons_of_mem _ ?_) fun v hv => ?_
    · refine List.mem_map.mpr ⟨(c + y * ((0 : Nat) : Int)) % b, pm.mem_iff.mpr (List.mem_map.mpr ⟨0, List.mem_range.mpr (by omega), rfl⟩), ?_⟩
      rw [cnt, Nat.zero_mod]
      rfl
    · rcases List.mem_cons.mp hv with rfl | hv
      · exact Int.natCast_nonneg _
      · obtain ⟨p, hp, rfl⟩ := List.mem_map.mp hv
        obtain ⟨j, hj, rfl⟩ := List.mem_map.mp (pm.mem_iff.mp hp)
        show ((ps.count ((c + y * (j : Int)) % b) : Nat) : Int) ≤ _
        rw [cnt]
        have : (m + (t - 1 - j % t)) / t ≤ (m + (t - 1)) / t := Nat.div_le_div_right (by omega)
        omega
theorem degL_flat {c b : Int} (m : Nat) : degL ((List.range m).map fun i : Nat => c + 0 * (i : Int)) b = degF m 0 b := by
  unfold degF
  rw [if_pos (.inr rfl)]
  by_cases hm : m = 0
  · subst hm
    rfl
  · have e : sortU ((List.range m).map fun i : Nat => c + 0 * (i : Int)) = [c] := by
      refine asc_one (asc_sortU _) (by simp) fun k => ?_
      rw [mem_sortU, List.mem_map, List.mem_singleton]
      constructor
      · rintro ⟨i, _, rfl⟩
        omega
      · rintro rfl
        exact ⟨0, List.mem_range.mpr (by omega), by omega⟩
    unfold degL
    rw [e]
    have : maxI (0 :: ([c % b].map fun p => ((([c % b].count p : Nat)) : Int))) = 1 := by
      simp [maxI]
      rfl
    rw [show ([c].map (· % b)) = [c % b] from rfl, this]
    omega
theorem degL_all {c y b : Int} (hb : 0 < b) (m : Nat) : degL ((List.range m).map fun i : Nat => c + y * (i : Int)) b = degF m y b := by
  by_cases hy : y = 0
  · subst hy
    exact degL_flat m
  · exact degL_row hb hy m
/-- the cells of the lanes of a guard -/
theorem degL_lanes {l h s r a b0 b : Int} (hs : 0 < s) (h0 : 0 ≤ r) (h1 : r < s) (hb : 0 < b) : degL ((listed l h s r).map fun x => a * x + b0) b = degF (lanesOf l h s r) (a * s) b := by
  have n := lanes_nonneg l h s r
  rw [listed_eq hs h0 h1]
  unfold numbered
  rw [List.map_map]
  have e : ((List.range (lanesOf l h s r).toNat).map ((fun x => a * x + b0) ∘ fun k : Nat => firstOf l s r + s * (k : Int))) = (List.range (lanesOf l h s r).toNat).map fun i : Nat => (a * firstOf l s r + b0) + (a * s) * (i : Int) := by
    refine List.map_congr_left fun i _ => ?_
    show a * (firstOf l s r + s * (i : Int)) + b0 = _
    rw [Int.mul_add, Int.mul_assoc]
    omega
  rw [e, degL_all hb]
  congr 1
  omega
end PN
/-! PDG2: lines of a wave as different numbers; degrees of all waves. -/
namespace PN
open PL
/-! ### different numbers -/
theorem once_fold (k : Int) : ∀ (ns acc : List Int), acc.Nodup → (ns.foldl PyProof.Rows.step_dedup acc).Nodup ∧ (k ∈ ns.foldl PyProof.Rows.step_dedup acc ↔ k ∈ acc ∨ k ∈ ns)
  | [], acc, h => ⟨h, by simp⟩
  | n :: ns, acc, h => by
    rw [List.foldl_cons]
    have e : PyProof.Rows.step_dedup acc n = if acc.any (· == n) then acc else acc ++ [n] := rfl
    rw [e]
    by_cases c : n ∈ acc
    · rw [if_pos (show (acc.any fun x => x == n) = true from List.any_eq_true.mpr ⟨n, c, by simp⟩)]
      obtain ⟨a1, a2⟩ := once_fold k ns acc h
      refine ⟨a1, a2.trans ?_⟩
      rw [List.mem_cons]
      constructor
      · rintro (x | x)
        · exact .inl x
        · exact .inr (.inr x)
      · rintro (x | rfl | x)
        · exact .inl x
        · exact .inl c
        · exact .inr x
    · rw [if_neg (fun z => c (by
        obtain ⟨y, hy, ey⟩ := List.any_eq_true.mp z
        rw [← beq_iff_eq.mp ey]
        exact hy))]
      obtain ⟨a1, a2⟩ := once_fold k ns (acc ++ [n]) (List.nodup_append.mpr ⟨h, by simp, fun a ha b hb => by
        rw [List.mem_singleton] at hb
        rintro rfl
        exact c (hb ▸ ha)⟩)
      refine ⟨a1, a2.trans ?_⟩
      rw [List.mem_append, List.mem_singleton, List.mem_cons]
      constructor
      · rintro ((x | x) | x)
        · exact .inl x
        · exact .inr (.inl x)
        · exact .inr (.inr x)
      · rintro (x | x | x)
        · exact .inl (.inl x)
        · exact .inl (.inr x)
        · exact .inr x
theorem once_mem {k : Int} {ns : List Int} : k ∈ onceI ns ↔ k ∈ ns := by
  have := (once_fold k ns [] (by simp)).2
  exact this.trans ⟨fun h => h.elim (fun z => (by cases z)) id, .inr⟩
theorem once_nd (ns : List Int) : (onceI ns).Nodup := (once_fold 0 ns [] (by simp)).1
/-- the first of each run -/
def hdR (f : Int → Int) : List Int → List Int
  | [] => []
  | [x] => [f x]
  | x :: y :: t => if f x = f y then hdR f (y :: t) else f x :: hdR f (y :: t)
theorem hdR_len (f : Int → Int) : ∀ l : List Int, (hdR f l).length = runs (fun x y => decide (f x = f y)) l
  | [] => rfl
  | [x] => rfl
  | x :: y :: t => by
    rw [runs_cons2]
    unfold hdR
    by_cases h : f x = f y
    · rw [if_pos h, hdR_len f (y :: t), if_pos (decide_eq_true h), Nat.zero_add]
    · rw [if_neg h, List.length_cons, hdR_len f (y :: t), if_neg (by simpa using h), Nat.add_comm]
theorem hdR_mem (f : Int → Int) (k : Int) : ∀ l : List Int, k ∈ hdR f l ↔ k ∈ l.map f
  | [] => by simp [hdR]
  | [x] => by simp [hdR]
  | x :: y :: t => by
    unfold hdR
    by_cases h : f x = f y
    · rw [if_pos h, hdR_mem f k (y :: t)]
      show k ∈ f y :: t.map f ↔ k ∈ f x :: f y :: t.map f
      rw [h]
      constructor
      · exact fun z => List.mem_cons_of_mem _ z
      · intro z
        rcases List.mem_cons.mp z with z | z
        · rw [z]; exact List.mem_cons_self
        · exact z
    · rw [if_neg h, List.mem_cons, hdR_mem f k (y :: t)]
      rw [List.map_cons (l := y :: t), List.mem_cons]
theorem hdR_nd (f : Int → Int) {c : Int} (hc : c = 1 ∨ c = -1) : ∀ l : List Int, l.Pairwise (fun x y => 0 ≤ c * (f y - f x)) → (hdR f l).Nodup
  | [], _ => by simp [hdR]
  | [x], _ => by simp [hdR]
  | x :: y :: t, h => by
    obtain ⟨h1, h2⟩ := List.pairwise_cons.mp h
    obtain ⟨h3, h4⟩ := List.pairwise_cons.mp h2
    unfold hdR
    by_cases e : f x = f y
    · rw [if_pos e]
      exact hdR_nd f hc (y :: t) h2
    · rw [if_neg e]
      refine List.nodup_cons.mpr ⟨fun m => ?_, hdR_nd f hc (y :: t) h2⟩
      obtain ⟨w, hw, ew⟩ := List.mem_map.mp ((hdR_mem f _ _).mp m)
      have a1 := h1 y List.mem_cons_self
      rcases List.mem_cons.mp hw with z | hw
      · exact e (by rw [← ew, z])
      · have a2 := h3 w hw
        rcases hc with rfl | rfl <;> omega
theorem runs_once (f : Int → Int) {c : Int} (hc : c = 1 ∨ c = -1) {l : List Int} (h : l.Pairwise (fun x y => 0 ≤ c * (f y - f x))) : (onceI (l.map f)).length = runs (fun x y => decide (f x = f y)) l := by
  rw [← hdR_len]
  exact PM.nodup_len (once_nd _) (hdR_nd f hc l h) fun k => by rw [once_mem, hdR_mem]
/-- the lines of one wave are the different lines of its lanes -/
theorem lines_once {l h s r W a b z j : Int} (hW : 0 < W) (hz : 0 < z) (ha : W * j ≤ l) (hb : h ≤ W * j + W) : (((onceI (((listed l h s r).map fun x => a * x + b).map fun c => c / z)).length : Nat) : Int) = linesOf l h s r W a b z := by
  unfold linesOf
  rw [runs_congr (R' := fun u v => decide (cellL a b z u = cellL a b z v))]
  · rw [List.map_map]
    have := runs_once (cellL a b z) (sgn_or a) (l := listed l h s r) ((listed_asc l h s r).imp fun {x y} q => cell_mono hz (by omega))
    exact congrArg Nat.cast this
  · intro x hx y hy
    rw [mem_listed] at hx hy
    have e1 := (wave_at (x := x) (j := j) hW).mpr ⟨by omega, by omega⟩
    have e2 := (wave_at (x := y) (j := j) hW).mpr ⟨by omega, by omega⟩
    unfold sameL
    rw [e1, e2]
    simp
/-! ### degrees of all waves -/
section
variable {l h s r W : Int}
/-- the lanes of a wave -/
def mW (l h s r W j : Int) : Int := lanesOf (max l (W * j)) (min h (W * j + W)) s r
theorem mW_nonneg (l h s r W j : Int) : 0 ≤ mW l h s r W j := lanes_nonneg _ _ _ _
theorem mW_none (hs : 0 < s) (hW : 0 < W) (h0 : 0 ≤ r) (h1 : r < s) {j : Int} (hj : lanesOf l h s r = 0 ∨ j < firstOf l s r / W ∨ lastOf l h s r / W < j) : mW l h s r W j = 0 := by
  have n := mW_nonneg l h s r W j
  rcases Int.lt_or_le 0 (mW l h s r W j) with p | p
  · exfalso
    unfold mW at p
    have q := (lanes_lt (l := max l (W * j)) (h := min h (W * j + W)) (r := r) hs (Int.le_refl 0)).mp p
    rw [Int.mul_zero, Int.add_zero] at q
    have m := first_mod (l := max l (W * j)) hs h0 h1
    have g := first_ge (l := max l (W * j)) (r := r) hs
    obtain ⟨x, hx⟩ : ∃ x, x = firstOf (max l (W * j)) s r := ⟨_, rfl⟩
    rw [← hx] at q m g
    have xj := (wave_at (x := x) (j := j) hW).mpr ⟨by omega, by omega⟩
    have fl := first_least (l := l) hs h0 h1 (x := x) (by omega) m
    have pos : 0 < lanesOf l h s r := lanes_pos hs (by omega)
    obtain ⟨_, b⟩ := last_law (l := l) (h := h) hs h0 h1
    obtain ⟨b1, _⟩ := b pos
    have xl : x ≤ lastOf l h s r := by
      rw [← b1]
      have e1 := Int.emod_emod_of_dvd (h - 1 - r) (Int.dvd_refl s)
      have e2 := Int.emod_nonneg (h - 1 - r) (show s ≠ 0 by omega)
      have e3 := Int.emod_lt_of_pos (h - 1 - r) hs
      have e4 : (h - 1 - (h - 1 - r) % s) % s = r := by
        rw [show h - 1 - (h - 1 - r) % s = r + ((h - 1 - r) - (h - 1 - r) % s) by omega, Int.emod_def (h - 1 - r) s, show (h - 1 - r) - ((h - 1 - r) - s * ((h - 1 - r) / s)) = s * ((h - 1 - r) / s) by omega, Int.add_mul_emod_self_left, Int.emod_eq_of_lt h0 h1]
      rcases Int.lt_or_le (h - 1 - (h - 1 - r) % s) x with c | c
      · have := step_of hs (e4.trans m.symm) c
        omega
      · exact c
    have d1 := Int.ediv_le_ediv hW fl
    have d2 := Int.ediv_le_ediv hW xl
    omega
  · omega
/-- cut between two waves -/
theorem mW_cut (hs : 0 < s) (hW : 0 < W) (h0 : 0 ≤ r) (h1 : r < s) {c : Int} (hc : c % W = 0 ∨ c = h) (lc : l ≤ c) (ch : c ≤ h) (j : Int) : (mW l c s r W j = mW l h s r W j ∧ mW c h s r W j = 0) ∨ (mW l c s r W j = 0 ∧ mW c h s r W j = mW l h s r W j) := by
  have none_ : ∀ {x y : Int}, y ≤ x → lanesOf x y s r = 0 := fun {x y} q => lanes_none hs (by have := first_ge (l := x) (r := r) hs; omega)
  rcases hc with hc | rfl
  · obtain ⟨k, rfl⟩ := Int.dvd_of_emod_eq_zero hc
    rcases Int.lt_or_le j k with q | q
    · left
      have : W * (j + 1) ≤ W * k := Int.mul_le_mul_of_nonneg_left (by omega) (by omega)
      rw [Int.mul_add, Int.mul_one] at this
      unfold mW
      refine ⟨?_, none_ (by omega)⟩
      rw [show min (W * k) (W * j + W) = min h (W * j + W) by omega]
    · right
      have : W * k ≤ W * j := Int.mul_le_mul_of_nonneg_left q (by omega)
      unfold mW
      refine ⟨none_ (by omega), ?_⟩
      rw [show max (W * k) (W * j) = max l (W * j) by omega]
  · left
    unfold mW
    exact ⟨rfl, none_ (by omega)⟩
theorem degF_zero (y b : Int) : degF 0 y b = 0 := by unfold degF; rw [if_pos (.inl rfl)]; rfl
theorem degF_nonneg {m y b : Int} (hm : 0 ≤ m) (hb : 0 < b) : 0 ≤ degF m y b := by
  unfold degF
  split
  · omega
  · exact Int.ediv_nonneg (by have := spread_pos (l := y) hb; omega) (by have := spread_pos (l := y) hb; omega)
def DGW (l h s r W y b j : Int) : Int := degF (mW l h s r W j) y b
theorem deg_cut (hs : 0 < s) (hW : 0 < W) (h0 : 0 ≤ r) (h1 : r < s) {c : Int} (hc : c % W = 0 ∨ c = h) (lc : l ≤ c) (ch : c ≤ h) (y b : Int) (n : Nat) : sumI (DGW l c s r W y b) 0 n + sumI (DGW c h s r W y b) 0 n = sumI (DGW l h s r W y b) 0 n := by
  rw [← sumI_plus]
  refine sumI_congr fun i _ => ?_
  unfold DGW
  rcases mW_cut hs hW h0 h1 hc lc ch (0 + (i : Int)) with ⟨e1, e2⟩ | ⟨e1, e2⟩
  · rw [e1, e2, degF_zero, Int.add_zero]
  · rw [e1, e2, degF_zero, Int.zero_add]
/-- a sum over all waves is one over the waves with lanes -/
theorem sum_inner {g : Int → Int} {A B : Int} (hA : 0 ≤ A) {n : Nat} (hB : B < n) (hAB : A ≤ B) (z : ∀ j, j < A ∨ B < j → g j = 0) : sumI g 0 n = sumI g A (B - A + 1).toNat := by
  obtain ⟨A', rfl⟩ := Int.eq_ofNat_of_zero_le hA
  have e : n = A' + ((B - A' + 1).toNat + (n - 1 - B).toNat) := by omega
  rw [e, sumI_add, sumI_add, sumI_zero fun i hi => z _ (.inl (by omega)), sumI_zero (a := 0 + (A' : Int) + ((B - A' + 1).toNat : Nat)) fun i hi => z _ (.inr (by omega))]
  rw [show (0 : Int) + ((A' : Nat) : Int) = A' by omega]
  omega
/-- the inner waves go on alike -/
theorem mW_shift (hs : 0 < s) (hW : 0 < W) (h0 : 0 ≤ r) (h1 : r < s) (sW : s < W) (hm : 0 < lanesOf l h s r) {p v i : Int} (hpW : (p * W) % s = 0) (v1 : firstOf l s r / W < v) (v2 : v < lastOf l h s r / W) (w1 : firstOf l s r / W < v + p * i) (w2 : v + p * i < lastOf l h s r / W) : mW l h s r W (v + p * i) = mW l h s r W v := by
  obtain ⟨a1, a2⟩ := inner hs hW h0 h1 sW hm v1 v2
  obtain ⟨b1, b2⟩ := inner hs hW h0 h1 sW hm w1 w2
  unfold mW
  rw [a1, a2, b1, b2, show W * (v + p * i) = W * v + (p * W) * i by grind, show W * v + p * W * i + W = W * v + W + p * W * i by omega]
  exact lanes_shift (by
    obtain ⟨k, hk⟩ := Int.dvd_of_emod_eq_zero hpW
    rw [hk, Int.mul_assoc]
    exact Int.mul_emod_right _ _)
theorem mul_sum (c : Int) : ∀ n : Nat, sumI (fun _ => c) 0 n = n * c
  | 0 => by show (0 : Int) = _; omega
  | n + 1 => by
    show sumI (fun _ => c) 0 n + c = _
    rw [mul_sum c n]
    grind
/-- the sum by groups -/
theorem deg_groups (hs : 0 < s) (hW : 0 < W) (h0 : 0 ≤ r) (h1 : r < s) (sW : s < W) (hm : 0 < lanesOf l h s r) {p : Int} (hp : 0 < p) (hpW : (p * W) % s = 0) (y b : Int) (hlt : firstOf l s r / W < lastOf l h s r / W) :
    DGW l h s r W y b (firstOf l s r / W) + DGW l h s r W y b (lastOf l h s r / W) + sumI (fun v => DGW l h s r W y b v * ((lastOf l h s r / W - 1 - v) / p + 1)) (firstOf l s r / W + 1) (min (firstOf l s r / W + 1 + p) (lastOf l h s r / W) - (firstOf l s r / W + 1)).toNat
      = sumI (DGW l h s r W y b) (firstOf l s r / W) (lastOf l h s r / W - firstOf l s r / W + 1).toNat := by
  have e := regroup (DGW l h s r W y b) hp _ (firstOf l s r / W + 1) (lastOf l h s r / W) (Nat.le_refl _)
  have c : sumI (fun v => DGW l h s r W y b v * ((lastOf l h s r / W - 1 - v) / p + 1)) (firstOf l s r / W + 1) (min (firstOf l s r / W + 1 + p) (lastOf l h s r / W) - (firstOf l s r / W + 1)).toNat = sumI (fun v => sumI (fun i => DGW l h s r W y b (v + p * i)) 0 ((lastOf l h s r / W - 1 - v) / p + 1).toNat) (firstOf l s r / W + 1) (min (firstOf l s r / W + 1 + p) (lastOf l h s r / W) - (firstOf l s r / W + 1)).toNat := by
    refine sumI_congr fun i hi => ?_
    obtain ⟨v, hv⟩ : ∃ v, v = firstOf l s r / W + 1 + (i : Int) := ⟨_, rfl⟩
    rw [← hv]
    have v1 : firstOf l s r / W < v := by omega
    have v2 : v < lastOf l h s r / W := by omega
    have q0 : 0 ≤ (lastOf l h s r / W - 1 - v) / p := Int.ediv_nonneg (by omega) (by omega)
    have q1 := Int.mul_ediv_self_le (x := lastOf l h s r / W - 1 - v) (k := p) (by omega)
    have al : sumI (fun i => DGW l h s r W y b (v + p * i)) 0 ((lastOf l h s r / W - 1 - v) / p + 1).toNat = sumI (fun _ => DGW l h s r W y b v) 0 ((lastOf l h s r / W - 1 - v) / p + 1).toNat := by
      refine sumI_congr fun k hk => ?_
      rw [Int.zero_add]
      have k1 : p * (k : Int) ≤ p * ((lastOf l h s r / W - 1 - v) / p) := Int.mul_le_mul_of_nonneg_left (by omega) (by omega)
      have k0 : 0 ≤ p * (k : Int) := Int.mul_nonneg (by omega) (by omega)
      unfold DGW
      rw [mW_shift hs hW h0 h1 sW hm hpW v1 v2 (by omega) (by omega)]
    rw [al, mul_sum, show ((((lastOf l h s r / W - 1 - v) / p + 1).toNat : Nat) : Int) = (lastOf l h s r / W - 1 - v) / p + 1 by omega, Int.mul_comm]
  rw [c, e]
  generalize firstOf l s r / W = A at *
  generalize lastOf l h s r / W = B at *
  rw [show (B - A + 1).toNat = (1 + (B - (A + 1)).toNat) + 1 by omega]
  show _ = sumI _ A (1 + (B - (A + 1)).toNat) + DGW l h s r W y b (A + ((1 + (B - (A + 1)).toNat : Nat) : Int))
  rw [sumI_add, show A + ((1 + (B - (A + 1)).toNat : Nat) : Int) = B by omega]
  show _ = (0 + DGW l h s r W y b (A + ((0 : Nat) : Int))) + sumI _ (A + ((1 : Nat) : Int)) _ + _
  rw [show A + ((0 : Nat) : Int) = A by omega, show A + ((1 : Nat) : Int) = A + 1 by omega]
  omega
/-- a wave between stands in a group -/
theorem in_group (hs : 0 < s) (hW : 0 < W) (h0 : 0 ≤ r) (h1 : r < s) (sW : s < W) (hm : 0 < lanesOf l h s r) {p : Int} (hp : 0 < p) (hpW : (p * W) % s = 0) {j : Int} (j1 : firstOf l s r / W < j) (j2 : j < lastOf l h s r / W) :
    ∃ v, firstOf l s r / W < v ∧ v < firstOf l s r / W + 1 + p ∧ v < lastOf l h s r / W ∧ mW l h s r W j = mW l h s r W v := by
  have em := Int.emod_add_mul_ediv (j - firstOf l s r / W - 1) p
  have e0 := Int.emod_nonneg (j - firstOf l s r / W - 1) (show p ≠ 0 by omega)
  have e1 := Int.emod_lt_of_pos (j - firstOf l s r / W - 1) hp
  have e2 : 0 ≤ (j - firstOf l s r / W - 1) / p := Int.ediv_nonneg (by omega) (by omega)
  have e3 : 0 ≤ p * ((j - firstOf l s r / W - 1) / p) := Int.mul_nonneg (by omega) e2
  refine ⟨firstOf l s r / W + 1 + (j - firstOf l s r / W - 1) % p, by omega, by omega, by omega, ?_⟩
  have := mW_shift hs hW h0 h1 sW hm (v := firstOf l s r / W + 1 + (j - firstOf l s r / W - 1) % p) (i := (j - firstOf l s r / W - 1) / p) hpW (by omega) (by omega) (by omega) (by omega)
  rw [← this]
  congr 1
  omega
/-- lanes wave by wave -/
theorem mW_sum (hs : 0 < s) (hW : 0 < W) (h0 : 0 ≤ r) (h1 : r < s) (hl : 0 ≤ l) (lh : l ≤ h) : ∀ n : Nat, sumI (mW l h s r W) 0 n = lanesOf l (max l (min h (W * n))) s r
  | 0 => by
    show (0 : Int) = _
    rw [show max l (min h (W * ((0 : Nat) : Int))) = l by omega]
    exact (lanes_none hs (by have := first_ge (l := l) (r := r) hs; omega)).symm
  | n + 1 => by
    show sumI (mW l h s r W) 0 n + mW l h s r W (0 + (n : Int)) = _
    rw [mW_sum hs hW h0 h1 hl lh n, Int.zero_add]
    have e : W * ((n + 1 : Nat) : Int) = W * (n : Int) + W := by
      rw [show ((n + 1 : Nat) : Int) = (n : Int) + 1 from rfl, Int.mul_add, Int.mul_one]
    rw [e]
    have none_ : ∀ {x y : Int}, y ≤ x → lanesOf x y s r = 0 := fun {x y} q => lanes_none hs (by have := first_ge (l := x) (r := r) hs; omega)
    unfold mW
    generalize W * (n : Int) = k
    by_cases c : k + W ≤ l
    · rw [none_ (x := max l k) (y := min h (k + W)) (by omega), show max l (min h k) = max l (min h (k + W)) by omega, Int.add_zero]
    · by_cases d : h ≤ k
      · rw [none_ (x := max l k) (y := min h (k + W)) (by omega), show max l (min h k) = max l (min h (k + W)) by omega, Int.add_zero]
      · rw [show max l (min h k) = max l k by omega, show max l (min h (k + W)) = min h (k + W) by omega]
        exact lanes_split' hs h0 h1 (by omega) (by omega)
end
end PN
/-! PDG3: the walks of the degrees. -/
namespace PM
open PySem PySem.Spec PyProof.Rows L2 PL PN
noncomputable def g_degrees_of : Stt → Fl :=
  (gSeq (gAsg (eCall PM.m_part_in (avN 2 (lPv (eVar 0) (lPv (eBin pIx (eCall PM.m_access_list (avN 1 (lPv (eVar 0) lNil))) (eVar 1)) lNil)))) (aTup 3 (asCons (aName 4) (asCons (aName 5) (asCons (aName 6) asNil)))))
  (gSeq (gIf (tOrr (tOf (eBin pEq (eVar 5) (eC (.int 0)))) (tTru (eCall PM.m_are_lonely (avN 2 (lPv (eVar 4) (lPv (eVar 2) lNil))))))
  (gSeq (gRet (frz (oLst (aCons (eTup (aCons (eC (.int 1)) (aCons (eCall PM.m_waves_with (avN 2 (lPv (eVar 4) (lPv (eVar 2) lNil)))) aNil))) aNil))))
  gNop)
  gNop)
  (gSeq (gAsg (eBin pMul (eVar 5) (eBin pIx (eVar 4) (eC (.int 2)))) (aName 7))
  (gSeq (gRet (frz (oComp [8, 9, 10] (iAny (eCall PM.m_waves_of (avN 2 (lPv (eVar 4) (lPv (eVar 2) lNil))))) (aTup 3 (asCons (aName 8) (asCons (aName 9) (asCons (aName 10) asNil)))) tYesD (eTup (aCons (eCall PM.m_degree_for (avN 3 (lPv (eCall PM.m_lanes_of (avN 1 (lPv (eVar 8) lNil))) (lPv (eVar 7) (lPv (eVar 3) lNil))))) (aCons (eVar 10) aNil))))))
  gNop))))
noncomputable def m_degrees_of : List SV → List MO → FRes := mOf 11 g_degrees_of
noncomputable def g_total_degree : Stt → Fl :=
  (gSeq (gDrop (eCall PM.m_check_access (avN 2 (lPv (eVar 0) (lPv (eVar 1) lNil)))))
  (gSeq (gDrop (eCall PM.m_check_wave (avN 1 (lPv (eVar 2) lNil))))
  (gSeq (gDrop (eCall PM.m_check_banks (avN 1 (lPv (eVar 3) lNil))))
  (gSeq (gRet (eCallB pSum (aCons (frz (oComp [4, 5] (iAny (eCall m_degrees_of (avN 4 (lPv (eVar 0) (lPv (eVar 1) (lPv (eVar 2) (lPv (eVar 3) lNil))))))) (aTup 2 (asCons (aName 4) (asCons (aName 5) asNil))) tYesD (eBin pMul (eVar 4) (eVar 5)))) aNil)))
  gNop))))
noncomputable def m_total_degree : List SV → List MO → FRes := mOf 6 g_total_degree
noncomputable def g_greatest_degree : Stt → Fl :=
  (gSeq (gDrop (eCall PM.m_check_access (avN 2 (lPv (eVar 0) (lPv (eVar 1) lNil)))))
  (gSeq (gDrop (eCall PM.m_check_wave (avN 1 (lPv (eVar 2) lNil))))
  (gSeq (gDrop (eCall PM.m_check_banks (avN 1 (lPv (eVar 3) lNil))))
  (gSeq (gRet (eCallB pMax1 (aCons (frz (oLst (aCons (eC (.int 0)) (aStar (frz (oComp [4, 5] (iAny (eCall m_degrees_of (avN 4 (lPv (eVar 0) (lPv (eVar 1) (lPv (eVar 2) (lPv (eVar 3) lNil))))))) (aTup 2 (asCons (aName 4) (asCons (aName 5) asNil))) (tOf (eBin pGt (eVar 5) (eC (.int 0)))) (eVar 4))) aNil)))) aNil)))
  gNop))))
noncomputable def m_greatest_degree : List SV → List MO → FRes := mOf 6 g_greatest_degree
noncomputable def l_degrees_of_1c : PV → Stt → Option Stt := (aTup 3 (asCons (aName 8) (asCons (aName 9) (asCons (aName 10) asNil))))
noncomputable def l_degrees_of_1d : Stt → Res Bool := tYesD
noncomputable def l_degrees_of_1e : Stt → Res PV := (eTup (aCons (eCall PM.m_degree_for (avN 3 (lPv (eCall PM.m_lanes_of (avN 1 (lPv (eVar 8) lNil))) (lPv (eVar 7) (lPv (eVar 3) lNil))))) (aCons (eVar 10) aNil)))
noncomputable def q_degrees_of_1 : Stt → Fl := (gAsg (eCall PM.m_part_in (avN 2 (lPv (eVar 0) (lPv (eBin pIx (eCall PM.m_access_list (avN 1 (lPv (eVar 0) lNil))) (eVar 1)) lNil)))) (aTup 3 (asCons (aName 4) (asCons (aName 5) (asCons (aName 6) asNil)))))
noncomputable def q_degrees_of_2 : Stt → Fl := (gIf (tOrr (tOf (eBin pEq (eVar 5) (eC (.int 0)))) (tTru (eCall PM.m_are_lonely (avN 2 (lPv (eVar 4) (lPv (eVar 2) lNil)))))) (gSeq (gRet (frz (oLst (aCons (eTup (aCons (eC (.int 1)) (aCons (eCall PM.m_waves_with (avN 2 (lPv (eVar 4) (lPv (eVar 2) lNil)))) aNil))) aNil)))) gNop) gNop)
noncomputable def q_degrees_of_3 : Stt → Fl := (gAsg (eBin pMul (eVar 5) (eBin pIx (eVar 4) (eC (.int 2)))) (aName 7))
noncomputable def q_degrees_of_4 : Stt → Fl := (gRet (frz (oComp [8, 9, 10] (iAny (eCall PM.m_waves_of (avN 2 (lPv (eVar 4) (lPv (eVar 2) lNil))))) l_degrees_of_1c l_degrees_of_1d l_degrees_of_1e)))
theorem g_degrees_of_eq : g_degrees_of = (gSeq q_degrees_of_1 (gSeq q_degrees_of_2 (gSeq q_degrees_of_3 (gSeq q_degrees_of_4 gNop)))) := rfl
noncomputable def l_total_degree_1c : PV → Stt → Option Stt := (aTup 2 (asCons (aName 4) (asCons (aName 5) asNil)))
noncomputable def l_total_degree_1d : Stt → Res Bool := tYesD
noncomputable def l_total_degree_1e : Stt → Res PV := (eBin pMul (eVar 4) (eVar 5))
noncomputable def q_total_degree_1 : Stt → Fl := (gDrop (eCall PM.m_check_access (avN 2 (lPv (eVar 0) (lPv (eVar 1) lNil)))))
noncomputable def q_total_degree_2 : Stt → Fl := (gDrop (eCall PM.m_check_wave (avN 1 (lPv (eVar 2) lNil))))
noncomputable def q_total_degree_3 : Stt → Fl := (gDrop (eCall PM.m_check_banks (avN 1 (lPv (eVar 3) lNil))))
noncomputable def q_total_degree_4 : Stt → Fl := (gRet (eCallB pSum (aCons (frz (oComp [4, 5] (iAny (eCall m_degrees_of (avN 4 (lPv (eVar 0) (lPv (eVar 1) (lPv (eVar 2) (lPv (eVar 3) lNil))))))) l_total_degree_1c l_total_degree_1d l_total_degree_1e)) aNil)))
theorem g_total_degree_eq : g_total_degree = (gSeq q_total_degree_1 (gSeq q_total_degree_2 (gSeq q_total_degree_3 (gSeq q_total_degree_4 gNop)))) := rfl
noncomputable def l_greatest_degree_1c : PV → Stt → Option Stt := (aTup 2 (asCons (aName 4) (asCons (aName 5) asNil)))
noncomputable def l_greatest_degree_1d : Stt → Res Bool := (tOf (eBin pGt (eVar 5) (eC (.int 0))))
noncomputable def l_greatest_degree_1e : Stt → Res PV := (eVar 4)
noncomputable def q_greatest_degree_1 : Stt → Fl := (gDrop (eCall PM.m_check_access (avN 2 (lPv (eVar 0) (lPv (eVar 1) lNil)))))
noncomputable def q_greatest_degree_2 : Stt → Fl := (gDrop (eCall PM.m_check_wave (avN 1 (lPv (eVar 2) lNil))))
noncomputable def q_greatest_degree_3 : Stt → Fl := (gDrop (eCall PM.m_check_banks (avN 1 (lPv (eVar 3) lNil))))
noncomputable def q_greatest_degree_4 : Stt → Fl := (gRet (eCallB pMax1 (aCons (frz (oLst (aCons (eC (.int 0)) (aStar (frz (oComp [4, 5] (iAny (eCall m_degrees_of (avN 4 (lPv (eVar 0) (lPv (eVar 1) (lPv (eVar 2) (lPv (eVar 3) lNil))))))) l_greatest_degree_1c l_greatest_degree_1d l_greatest_degree_1e)) aNil)))) aNil)))
theorem g_greatest_degree_eq : g_greatest_degree = (gSeq q_greatest_degree_1 (gSeq q_greatest_degree_2 (gSeq q_greatest_degree_3 (gSeq q_greatest_degree_4 gNop)))) := rfl
noncomputable def q_degree_for_1 : Stt → Fl := (gIf (tOrr (tOf (eBin pEq (eVar 0) (eC (.int 0)))) (tOf (eBin pEq (eVar 1) (eC (.int 0))))) (gSeq (gRet (eCallB pMin2 (aCons (eVar 0) (aCons (eC (.int 1)) aNil)))) gNop) gNop)
noncomputable def q_degree_for_2 : Stt → Fl := (gAsg (eCall PM.m_different_banks (avN 2 (lPv (eVar 1) (lPv (eVar 2) lNil)))) (aName 3))
noncomputable def q_degree_for_3 : Stt → Fl := (gRet (eBin pFdiv (eBin pSub (eBin pAdd (eVar 0) (eVar 3)) (eC (.int 1))) (eVar 3)))
theorem g_degree_for_eq : g_degree_for = (gSeq q_degree_for_1 (gSeq q_degree_for_2 (gSeq q_degree_for_3 gNop))) := rfl
theorem call4g {st : Stt} {m : List SV → List MO → FRes} {f1 f2 f3 f4 : Stt → Res PV} {p q r v w : PV} (h1 : f1 st = .ok p st) (h2 : f2 st = .ok q st) (h3 : f3 st = .ok r st) (h4 : f4 st = .ok v st) (e : m [.val p, .val q, .val r, .val v] [] = .ok w []) : eCall m (avN 4 (lPv f1 (lPv f2 (lPv f3 (lPv f4 lNil))))) st = .ok w st := by
  simp only [eCall, avN, lPv, lNil, h1, h2, h3, h4, Res.bind_ok, List.length_cons, List.length_nil, Nat.reduceAdd, if_true, lowerA, distinct, getAll, setAll, e]
theorem callB2_at {st : Stt} {op : List PV → Option PV} {fa fb : Stt → Res PV} {p q r : PV} (ha : fa st = .ok p st) (hb : fb st = .ok q st) (h : op [p, q] = some r) : eCallB op (aCons fa (aCons fb aNil)) st = .ok r st := by
  unfold eCallB
  have e : aCons fa (aCons fb aNil) st = .ok [p, q] st := acons_at ha (acons_at hb rfl)
  rw [e]
  simp only [Res.bind_ok, h, Res.opt_some]
theorem e_degree_nz (w l b : Int) (hw : w ≠ 0) (hl : l ≠ 0) (hb : 0 < b) (hb2 : b.natAbs < 2 ^ 4000) : m_degree_for [.val (.int w), .val (.int l), .val (.int b)] [] = .ok (.int ((w + spread b l - 1) / spread b l)) [] := by
  have h1 : (w == 0) = false := by simp; omega
  have h2 : (l == 0) = false := by simp; omega
  have h3 := e_different_banks l b hb hb2
  have s0 := spread_pos (l := l) hb
  have s1 := spread_le (l := l) hb
  have hd : okDiv (spread b l) = true := okDiv_of (b := 4000) (by omega) (Nat.lt_of_le_of_lt (m := b.natAbs) (by omega) hb2) (by decide) (by decide)
  have ed : pFdiv (.int (w + spread b l - 1)) (.int (spread b l)) = some (.int ((w + spread b l - 1) / spread b l)) := by
    show (if okDiv (spread b l) = true then some (PV.int ((w + spread b l - 1).fdiv (spread b l))) else none) = _
    rw [if_pos hd, Int.fdiv_eq_ediv_of_nonneg _ (by omega)]
  have ct : tOrr (tOf (eBin pEq (eVar 0) (eC (.int 0)))) (tOf (eBin pEq (eVar 1) (eC (.int 0)))) ⟨[some (.val (.int w)), some (.val (.int l)), some (.val (.int b)), none], []⟩ = .ok false ⟨[some (.val (.int w)), some (.val (.int l)), some (.val (.int b)), none], []⟩ := by
    have := or_t (st := ⟨[some (.val (.int w)), some (.val (.int l)), some (.val (.int b)), none], []⟩) (eq_t (i := w) (j := 0) (fa := eVar 0) (fb := eC (.int 0)) rfl rfl) (eq_t (i := l) (j := 0) (fa := eVar 1) (fb := eC (.int 0)) rfl rfl)
    rw [h1, h2] at this
    exact this
  have t1 : q_degree_for_1 ⟨[some (.val (.int w)), some (.val (.int l)), some (.val (.int b)), none], []⟩ = .nx ⟨[some (.val (.int w)), some (.val (.int l)), some (.val (.int b)), none], []⟩ := if_no ct
  have t2 : q_degree_for_2 ⟨[some (.val (.int w)), some (.val (.int l)), some (.val (.int b)), none], []⟩ = .nx ⟨[some (.val (.int w)), some (.val (.int l)), some (.val (.int b)), some (.val (.int (spread b l)))], []⟩ := asg_at (call2v rfl rfl h3) rfl
  have t3 : q_degree_for_3 ⟨[some (.val (.int w)), some (.val (.int l)), some (.val (.int b)), some (.val (.int (spread b l)))], []⟩ = .rt (.int ((w + spread b l - 1) / spread b l)) ⟨[some (.val (.int w)), some (.val (.int l)), some (.val (.int b)), some (.val (.int (spread b l)))], []⟩ := ret_at (bin_at (p := .int (w + spread b l - 1)) (q := .int (spread b l)) (bin_at (p := .int (w + spread b l)) (q := .int 1) (bin_at (p := .int w) (q := .int (spread b l)) rfl rfl rfl) rfl rfl) rfl ed)
  unfold m_degree_for
  rw [g_degree_for_eq]
  simp only [mOf, start0, List.map_cons, List.map_nil, List.length_cons, List.length_nil, Nat.reduceAdd, Nat.reduceSub, List.replicate, List.cons_append, List.nil_append]
  rw [seq_nx t1, seq_nx t2, seq_rt t3]
  rfl
theorem e_degree_z (w l b : Int) (h : w = 0 ∨ l = 0) : m_degree_for [.val (.int w), .val (.int l), .val (.int b)] [] = .ok (.int (min w 1)) [] := by
  have ct : tOrr (tOf (eBin pEq (eVar 0) (eC (.int 0)))) (tOf (eBin pEq (eVar 1) (eC (.int 0)))) ⟨[some (.val (.int w)), some (.val (.int l)), some (.val (.int b)), none], []⟩ = .ok true ⟨[some (.val (.int w)), some (.val (.int l)), some (.val (.int b)), none], []⟩ := by
    have := or_t (st := ⟨[some (.val (.int w)), some (.val (.int l)), some (.val (.int b)), none], []⟩) (eq_t (i := w) (j := 0) (fa := eVar 0) (fb := eC (.int 0)) rfl rfl) (eq_t (i := l) (j := 0) (fa := eVar 1) (fb := eC (.int 0)) rfl rfl)
    rcases h with h | h
    · rw [beq_iff_eq.mpr h, Bool.true_or] at this
      exact this
    · rw [beq_iff_eq.mpr h, Bool.or_true] at this
      exact this
  have em : pMin2 [.int w, .int 1] = some (.int (min w 1)) := by
    show some (PV.int (if (1 : Int) < w then 1 else w)) = _
    congr 2
    split <;> omega
  have t1 : q_degree_for_1 ⟨[some (.val (.int w)), some (.val (.int l)), some (.val (.int b)), none], []⟩ = .rt (.int (min w 1)) ⟨[some (.val (.int w)), some (.val (.int l)), some (.val (.int b)), none], []⟩ := (if_yes ct).trans (seq_rt (ret_at (callB2_at rfl rfl em)))
  unfold m_degree_for
  rw [g_degree_for_eq]
  simp only [mOf, start0, List.map_cons, List.map_nil, List.length_cons, List.length_nil, Nat.reduceAdd, Nat.reduceSub, List.replicate, List.cons_append, List.nil_append]
  rw [seq_rt t1]
  rfl
theorem e_degF {w l b : Int} (hb : 0 < b) (hb2 : b.natAbs < 2 ^ 4000) : m_degree_for [.val (.int w), .val (.int l), .val (.int b)] [] = .ok (.int (degF w l b)) [] := by
  unfold degF
  by_cases h : w = 0 ∨ l = 0
  · rw [if_pos h]
    exact e_degree_z w l b h
  · rw [if_neg h]
    exact e_degree_nz w l b (fun q => h (.inl q)) (fun q => h (.inr q)) hb hb2
theorem e_waves_none {l h s r W : Int} (g : Gs l h s r) (hm : lanesOf l h s r = 0) : m_waves_of [.val (gt l h s r), .val (.int W)] [] = .ok (.lst []) [] := by
  have c0 := e_lanes_of l h s r g.s0 g.okd
  rw [hm] at c0
  have t1 : q_waves_of_1 ⟨[some (.val (gt l h s r)), some (.val (.int W)), none, none, none, none, none], []⟩ = .rt (.lst []) ⟨[some (.val (gt l h s r)), some (.val (.int W)), none, none, none, none, none], []⟩ := (if_yes (eq_t (i := 0) (j := 0) (call1v rfl c0) rfl)).trans (seq_rt (ret_at (lst_at rfl (by show (0 : Nat) ≤ 16777216; decide))))
  unfold m_waves_of
  rw [g_waves_of_eq]
  simp only [mOf, start0, List.map_cons, List.map_nil, List.length_cons, List.length_nil, Nat.reduceAdd, Nat.reduceSub, List.replicate, List.cons_append, List.nil_append]
  rw [seq_rt t1]
  rfl
/-- an access of a kernel -/
structure AccK (kn : PV) (i l h s r a b : Int) : Prop where
  ca : m_check_access [.val kn, .val (.int i)] [] = .ok .non []
  al : ∃ L ac, m_access_list [.val kn] [] = .ok (.lst L) [] ∧ atI L i = some ac ∧ m_part_in [.val kn, .val ac] [] = .ok (.tup [gt l h s r, .int a, .int b]) []
/-- the waves in groups: number, by, many -/
def wvt (l h s r W : Int) : List (Int × Int × Int) := ((J0 l s r W, 0, 1) :: (if J0 l s r W < J1 l h s r W then [(J1 l h s r W, 0, 1)] else [])) ++ (List.range (nIn l h s r W)).map fun i : Nat => (J0 l s r W + 1 + (i : Int), perOf s W * W, (J1 l h s r W - 1 - (J0 l s r W + 1 + (i : Int))) / perOf s W + 1)
theorem groups_wvt (l h s r W : Int) : groups l h s r W = (wvt l h s r W).map fun t => wv l h s r W t.1 t.2.1 t.2.2 := by
  unfold groups heads wvt
  rw [List.map_append, List.map_cons, List.map_map]
  congr 2
  split <;> rfl
def dgs (l h s r a W B : Int) : List (Int × Int) := if a = 0 ∨ W ≤ s then [(1, wavesWith l h s r W)] else if lanesOf l h s r = 0 then [] else (wvt l h s r W).map fun t => (DGW l h s r W (a * s) B t.1, t.2.2)
abbrev pr2 (p : Int × Int) : PV := .tup [.int p.1, .int p.2]
theorem nIn_le {s W : Int} (l h r : Int) (hs : 0 < s) (hW : 1 ≤ W ∧ W ≤ 32) (sW : s < W) : nIn l h s r W ≤ 32 := by
  have pl := per_le hs (show 0 < W by omega)
  unfold nIn
  omega
theorem wvt_len {s W : Int} (l h r : Int) (hs : 0 < s) (hW : 1 ≤ W ∧ W ≤ 32) (sW : s < W) : (wvt l h s r W).length ≤ 34 := by
  have := nIn_le l h r hs hW sW
  unfold wvt
  rw [List.length_append, List.length_cons, List.length_map, List.length_range]
  split
  · rw [List.length_singleton]; omega
  · rw [List.length_nil]; omega
theorem ix2g (l h s r : Int) : pIx (gt l h s r) (.int 2) = some (.int s) := at2 _ _ _ _
theorem e_degrees_of {kn : PV} {i l h s r a b W B : Int} (K : AccK kn i l h s r a b) (g : Gs l h s r) (hW : 1 ≤ W ∧ W ≤ 32) (hB : 1 ≤ B ∧ B ≤ 4096) (ab : a.natAbs < 2 ^ 300) : m_degrees_of [.val kn, .val (.int i), .val (.int W), .val (.int B)] [] = .ok (.lst ((dgs l h s r a W B).map pr2)) [] := by
  obtain ⟨L, ac, k1, k2, k3⟩ := K.al
  have s0 := g.s0
  have c6 := e_waves_with g hW
  have c7 := e_lonely l h s r W
  have t1 : q_degrees_of_1 ⟨[some (.val (kn)), some (.val (.int i)), some (.val (.int W)), some (.val (.int B)), none, none, none, none, none, none, none], []⟩ = .nx ⟨[some (.val (kn)), some (.val (.int i)), some (.val (.int W)), some (.val (.int B)), some (.val (gt l h s r)), some (.val (.int a)), some (.val (.int b)), none, none, none, none], []⟩ := asgG_at (s1 := ⟨[some (.val (kn)), some (.val (.int i)), some (.val (.int W)), some (.val (.int B)), none, none, none, none, none, none, none], []⟩) (call2v (p := kn) (q := ac) rfl (bin_at (p := .lst L) (q := .int i) (call1v rfl k1) rfl k2) k3) rfl
  have ct := or_t (st := ⟨[some (.val (kn)), some (.val (.int i)), some (.val (.int W)), some (.val (.int B)), some (.val (gt l h s r)), some (.val (.int a)), some (.val (.int b)), none, none, none, none], []⟩) (eq_t (i := a) (j := 0) (fa := eVar 5) (fb := eC (.int 0)) rfl rfl) (tru_t (call2v (fa := eVar 4) (fb := eVar 2) rfl rfl c7))
  unfold m_degrees_of dgs
  rw [g_degrees_of_eq]
  simp only [mOf, start0, List.map_cons, List.map_nil, List.length_cons, List.length_nil, Nat.reduceAdd, Nat.reduceSub, List.replicate, List.cons_append, List.nil_append]
  rw [seq_nx t1]
  by_cases c : a = 0 ∨ W ≤ s
  · rw [if_pos c]
    have e : ((a == 0) || decide (s ≥ W)) = true := by
      rcases c with c | c
      · rw [beq_iff_eq.mpr c, Bool.true_or]
      · rw [decide_eq_true (show s ≥ W from c), Bool.or_true]
    rw [e] at ct
    have t2 : q_degrees_of_2 ⟨[some (.val (kn)), some (.val (.int i)), some (.val (.int W)), some (.val (.int B)), some (.val (gt l h s r)), some (.val (.int a)), some (.val (.int b)), none, none, none, none], []⟩ = .rt (.lst [.tup [.int 1, .int (wavesWith l h s r W)]]) ⟨[some (.val (kn)), some (.val (.int i)), some (.val (.int W)), some (.val (.int B)), some (.val (gt l h s r)), some (.val (.int a)), some (.val (.int b)), none, none, none, none], []⟩ := (if_yes ct).trans (seq_rt (ret_at (lst_at (acons_at (tup_at (acons_at rfl (acons_at (call2v rfl rfl c6) rfl)) (by show (2 : Nat) ≤ 16777216; decide)) rfl) (by show (1 : Nat) ≤ 16777216; decide))))
    rw [seq_rt t2]
    rfl
  · rw [if_neg c]
    have e : ((a == 0) || decide (s ≥ W)) = false := by
      rw [beq_eq_false_iff_ne.mpr (fun q => c (.inl q)), decide_eq_false (show ¬ s ≥ W from fun q => c (.inr q))]
      rfl
    rw [e] at ct
    have sW : s < W := by omega
    have kas : pMul (.int a) (.int s) = some (.int (a * s)) := if_pos (okMul_of (a := 300) (b := 200) ab (abs_lt (by omega) g.sb) (by decide) (by decide) (by decide))
    have t2 : q_degrees_of_2 ⟨[some (.val (kn)), some (.val (.int i)), some (.val (.int W)), some (.val (.int B)), some (.val (gt l h s r)), some (.val (.int a)), some (.val (.int b)), none, none, none, none], []⟩ = .nx ⟨[some (.val (kn)), some (.val (.int i)), some (.val (.int W)), some (.val (.int B)), some (.val (gt l h s r)), some (.val (.int a)), some (.val (.int b)), none, none, none, none], []⟩ := if_no ct
    have t3 : q_degrees_of_3 ⟨[some (.val (kn)), some (.val (.int i)), some (.val (.int W)), some (.val (.int B)), some (.val (gt l h s r)), some (.val (.int a)), some (.val (.int b)), none, none, none, none], []⟩ = .nx ⟨[some (.val (kn)), some (.val (.int i)), some (.val (.int W)), some (.val (.int B)), some (.val (gt l h s r)), some (.val (.int a)), some (.val (.int b)), some (.val (.int (a * s))), none, none, none], []⟩ := asg_at (s1 := ⟨[some (.val (kn)), some (.val (.int i)), some (.val (.int W)), some (.val (.int B)), some (.val (gt l h s r)), some (.val (.int a)), some (.val (.int b)), none, none, none, none], []⟩) (bin_at (p := .int a) (q := .int s) rfl (bin_at rfl rfl (ix2g l h s r)) kas) rfl
    rw [seq_nx t2, seq_nx t3]
    have B0 : B.natAbs < 2 ^ 4000 := Nat.lt_of_le_of_lt (m := 4096) (by omega) (by decide +kernel)
    by_cases hm : lanesOf l h s r = 0
    · rw [if_pos hm]
      have c := e_waves_none (W := W) g hm
      have t4 : q_degrees_of_4 ⟨[some (.val (kn)), some (.val (.int i)), some (.val (.int W)), some (.val (.int B)), some (.val (gt l h s r)), some (.val (.int a)), some (.val (.int b)), some (.val (.int (a * s))), none, none, none], []⟩ = .rt (.lst []) ⟨[some (.val (kn)), some (.val (.int i)), some (.val (.int W)), some (.val (.int B)), some (.val (gt l h s r)), some (.val (.int a)), some (.val (.int b)), some (.val (.int (a * s))), none, none, none], []⟩ := ret_at (comp_at (l := []) (out := []) (s1 := ⟨[some (.val (kn)), some (.val (.int i)), some (.val (.int W)), some (.val (.int B)), some (.val (gt l h s r)), some (.val (.int a)), some (.val (.int b)), some (.val (.int (a * s))), none, none, none], []⟩) (any_i (call2v rfl rfl c)) rfl rfl)
      rw [seq_rt t4]
      rfl
    · rw [if_neg hm]
      have n := lanes_nonneg l h s r
      have c := e_waves_of g hW sW (by omega)
      rw [groups_wvt] at c
      have cl := compL_M (vs := [8, 9, 10]) (a := l_degrees_of_1c) (fe := l_degrees_of_1e) (s := ⟨[some (.val (kn)), some (.val (.int i)), some (.val (.int W)), some (.val (.int B)), some (.val (gt l h s r)), some (.val (.int a)), some (.val (.int b)), some (.val (.int (a * s))), none, none, none], []⟩) (fun t : Int × Int × Int => wv l h s r W t.1 t.2.1 t.2.2) (fun t => pr2 (DGW l h s r W (a * s) B t.1, t.2.2)) (wvt l h s r W) (Nat.le_trans (wvt_len l h r s0 hW sW) (by decide)) fun t _ =>
        ⟨⟨[some (.val (kn)), some (.val (.int i)), some (.val (.int W)), some (.val (.int B)), some (.val (gt l h s r)), some (.val (.int a)), some (.val (.int b)), some (.val (.int (a * s))), some (.val (gt (max l (W * t.1)) (min h (W * t.1 + W)) s r)), some (.val (.int t.2.1)), some (.val (.int t.2.2))], []⟩, rfl, ⟨[some (.val (kn)), some (.val (.int i)), some (.val (.int W)), some (.val (.int B)), some (.val (gt l h s r)), some (.val (.int a)), some (.val (.int b)), some (.val (.int (a * s))), some (.val (gt (max l (W * t.1)) (min h (W * t.1 + W)) s r)), some (.val (.int t.2.1)), some (.val (.int t.2.2))], []⟩, tup_at (acons_at (call3v (call1v rfl (e_lanes_of _ _ _ _ s0 g.okd)) rfl rfl (e_degF (show 0 < B by omega) B0)) (acons_at rfl rfl)) (by show (2 : Nat) ≤ 16777216; decide), rfl⟩
      have t4 : q_degrees_of_4 ⟨[some (.val (kn)), some (.val (.int i)), some (.val (.int W)), some (.val (.int B)), some (.val (gt l h s r)), some (.val (.int a)), some (.val (.int b)), some (.val (.int (a * s))), none, none, none], []⟩ = .rt (.lst ((wvt l h s r W).map fun t => pr2 (DGW l h s r W (a * s) B t.1, t.2.2))) ⟨[some (.val (kn)), some (.val (.int i)), some (.val (.int W)), some (.val (.int B)), some (.val (gt l h s r)), some (.val (.int a)), some (.val (.int b)), some (.val (.int (a * s))), none, none, none], []⟩ := ret_at (comp_at (s1 := ⟨[some (.val (kn)), some (.val (.int i)), some (.val (.int W)), some (.val (.int B)), some (.val (gt l h s r)), some (.val (.int a)), some (.val (.int b)), some (.val (.int (a * s))), none, none, none], []⟩) (any_i (call2v rfl rfl c)) cl rfl)
      rw [seq_rt t4, List.map_map]
      rfl
theorem pSum_map {α : Type} (f : α → Int) (l : List α) : pSum [.lst (l.map fun x => PV.int (f x))] = some (.int (l.map f).sum) := by
  have e : l.map (fun x => PV.int (f x)) = (l.map f).map PV.int := by rw [List.map_map]; rfl
  rw [e]
  simp only [pSum, allInt_map]
theorem dgs_len {s W : Int} (l h r a B : Int) (hs : 0 < s) (hW : 1 ≤ W ∧ W ≤ 32) : (dgs l h s r a W B).length ≤ 34 := by
  unfold dgs
  by_cases c : a = 0 ∨ W ≤ s
  · rw [if_pos c, List.length_singleton]; omega
  · rw [if_neg c]
    split
    · rw [List.length_nil]; omega
    · rw [List.length_map]
      exact wvt_len l h r hs hW (by omega)
theorem e_total_degree {kn : PV} {i l h s r a b W B : Int} (K : AccK kn i l h s r a b) (g : Gs l h s r) (hW : 1 ≤ W ∧ W ≤ 32) (hB : 1 ≤ B ∧ B ≤ 4096) (ab : a.natAbs < 2 ^ 300)
    (bd : ∀ p ∈ dgs l h s r a W B, p.1.natAbs < 2 ^ 300 ∧ p.2.natAbs < 2 ^ 300) : m_total_degree [.val kn, .val (.int i), .val (.int W), .val (.int B)] [] = .ok (.int ((dgs l h s r a W B).map fun p => p.1 * p.2).sum) [] := by
  have e := e_degrees_of K g hW hB ab
  have cl := compL_M (vs := [4, 5]) (a := l_total_degree_1c) (fe := l_total_degree_1e) (s := ⟨[some (.val (kn)), some (.val (.int i)), some (.val (.int W)), some (.val (.int B)), none, none], []⟩) pr2 (fun p => .int (p.1 * p.2)) (dgs l h s r a W B) (Nat.le_trans (dgs_len l h r a B g.s0 hW) (by decide)) fun p hp =>
    ⟨⟨[some (.val (kn)), some (.val (.int i)), some (.val (.int W)), some (.val (.int B)), some (.val (.int p.1)), some (.val (.int p.2))], []⟩, rfl, ⟨[some (.val (kn)), some (.val (.int i)), some (.val (.int W)), some (.val (.int B)), some (.val (.int p.1)), some (.val (.int p.2))], []⟩, bin_at (p := .int p.1) (q := .int p.2) rfl rfl (if_pos (okMul_of (a := 300) (b := 300) (bd p hp).1 (bd p hp).2 (by decide) (by decide) (by decide))), rfl⟩
  have t1 : q_total_degree_1 ⟨[some (.val (kn)), some (.val (.int i)), some (.val (.int W)), some (.val (.int B)), none, none], []⟩ = .nx ⟨[some (.val (kn)), some (.val (.int i)), some (.val (.int W)), some (.val (.int B)), none, none], []⟩ := drop_at (call2v (p := kn) (q := .int i) rfl rfl K.ca)
  have t2 : q_total_degree_2 ⟨[some (.val (kn)), some (.val (.int i)), some (.val (.int W)), some (.val (.int B)), none, none], []⟩ = .nx ⟨[some (.val (kn)), some (.val (.int i)), some (.val (.int W)), some (.val (.int B)), none, none], []⟩ := drop_at (call1v (p := .int W) rfl (e_check_wave W hW))
  have t3 : q_total_degree_3 ⟨[some (.val (kn)), some (.val (.int i)), some (.val (.int W)), some (.val (.int B)), none, none], []⟩ = .nx ⟨[some (.val (kn)), some (.val (.int i)), some (.val (.int W)), some (.val (.int B)), none, none], []⟩ := drop_at (call1v (p := .int B) rfl (e_check_banks B hB))
  have t4 : q_total_degree_4 ⟨[some (.val (kn)), some (.val (.int i)), some (.val (.int W)), some (.val (.int B)), none, none], []⟩ = .rt (.int ((dgs l h s r a W B).map fun p => p.1 * p.2).sum) ⟨[some (.val (kn)), some (.val (.int i)), some (.val (.int W)), some (.val (.int B)), none, none], []⟩ := ret_at (callB1_at (comp_at (s1 := ⟨[some (.val (kn)), some (.val (.int i)), some (.val (.int W)), some (.val (.int B)), none, none], []⟩) (any_i (call4g (p := kn) rfl rfl rfl rfl e)) cl rfl) (pSum_map _ _))
  unfold m_total_degree
  rw [g_total_degree_eq]
  simp only [mOf, start0, List.map_cons, List.map_nil, List.length_cons, List.length_nil, Nat.reduceAdd, Nat.reduceSub, List.replicate, List.cons_append, List.nil_append]
  rw [seq_nx t1, seq_nx t2, seq_nx t3, seq_rt t4]
  rfl
theorem pMax_map {α : Type} (f : α → Int) (x : Int) (l : List α) : pMax1 [.lst (.int x :: l.map fun y => PV.int (f y))] = some (.int (maxI (x :: l.map f))) := by
  have e : PV.int x :: l.map (fun y => PV.int (f y)) = (x :: l.map f).map PV.int := by rw [List.map_cons, List.map_map]; rfl
  rw [e]
  simp only [pMax1, allInt_map]
theorem star_atD {st : Stt} {fe : Stt → Res PV} {l : List PV} (h : fe st = .ok (.lst l) st) : aStar fe aNil st = .ok l st := by
  unfold aStar
  rw [h]
  show (Res.ok (l ++ []) st : Res (List PV)) = _
  rw [List.append_nil]
theorem e_greatest_degree {kn : PV} {i l h s r a b W B : Int} (K : AccK kn i l h s r a b) (g : Gs l h s r) (hW : 1 ≤ W ∧ W ≤ 32) (hB : 1 ≤ B ∧ B ≤ 4096) (ab : a.natAbs < 2 ^ 300) : m_greatest_degree [.val kn, .val (.int i), .val (.int W), .val (.int B)] [] = .ok (.int (maxI (0 :: ((dgs l h s r a W B).filter fun p => decide (p.2 > 0)).map (·.1)))) [] := by
  have e := e_degrees_of K g hW hB ab
  have ln := dgs_len l h r a B g.s0 hW
  have fn : ((dgs l h s r a W B).filter fun p => decide (p.2 > 0)).length ≤ 34 := Nat.le_trans (List.length_filter_le _ _) ln
  have cl := compL_F (vs := [4, 5]) (a := l_greatest_degree_1c) (ft := l_greatest_degree_1d) (fe := l_greatest_degree_1e) (s := ⟨[some (.val (kn)), some (.val (.int i)), some (.val (.int W)), some (.val (.int B)), none, none], []⟩) pr2 (fun p => .int p.1) (fun p => decide (p.2 > 0)) (dgs l h s r a W B) [] (Nat.le_trans (by rw [List.length_nil]; omega) (show 34 ≤ 16777216 by decide)) fun p _ =>
    ⟨⟨[some (.val (kn)), some (.val (.int i)), some (.val (.int W)), some (.val (.int B)), some (.val (.int p.1)), some (.val (.int p.2))], []⟩, ⟨[some (.val (kn)), some (.val (.int i)), some (.val (.int W)), some (.val (.int B)), some (.val (.int p.1)), some (.val (.int p.2))], []⟩, rfl, gt_t rfl rfl, fun _ => rfl, fun _ => ⟨⟨[some (.val (kn)), some (.val (.int i)), some (.val (.int W)), some (.val (.int B)), some (.val (.int p.1)), some (.val (.int p.2))], []⟩, rfl, rfl⟩⟩
  rw [List.nil_append] at cl
  have t1 : q_greatest_degree_1 ⟨[some (.val (kn)), some (.val (.int i)), some (.val (.int W)), some (.val (.int B)), none, none], []⟩ = .nx ⟨[some (.val (kn)), some (.val (.int i)), some (.val (.int W)), some (.val (.int B)), none, none], []⟩ := drop_at (call2v (p := kn) (q := .int i) rfl rfl K.ca)
  have t2 : q_greatest_degree_2 ⟨[some (.val (kn)), some (.val (.int i)), some (.val (.int W)), some (.val (.int B)), none, none], []⟩ = .nx ⟨[some (.val (kn)), some (.val (.int i)), some (.val (.int W)), some (.val (.int B)), none, none], []⟩ := drop_at (call1v (p := .int W) rfl (e_check_wave W hW))
  have t3 : q_greatest_degree_3 ⟨[some (.val (kn)), some (.val (.int i)), some (.val (.int W)), some (.val (.int B)), none, none], []⟩ = .nx ⟨[some (.val (kn)), some (.val (.int i)), some (.val (.int W)), some (.val (.int B)), none, none], []⟩ := drop_at (call1v (p := .int B) rfl (e_check_banks B hB))
  have t4 : q_greatest_degree_4 ⟨[some (.val (kn)), some (.val (.int i)), some (.val (.int W)), some (.val (.int B)), none, none], []⟩ = .rt (.int (maxI (0 :: ((dgs l h s r a W B).filter fun p => decide (p.2 > 0)).map (·.1)))) ⟨[some (.val (kn)), some (.val (.int i)), some (.val (.int W)), some (.val (.int B)), none, none], []⟩ := ret_at (callB1_at (lst_at (acons_at rfl (star_atD (comp_at (s1 := ⟨[some (.val (kn)), some (.val (.int i)), some (.val (.int W)), some (.val (.int B)), none, none], []⟩) (any_i (call4g (p := kn) rfl rfl rfl rfl e)) cl rfl))) (by rw [List.length_cons, List.length_map]; omega)) (pMax_map _ _ _))
  unfold m_greatest_degree
  rw [g_greatest_degree_eq]
  simp only [mOf, start0, List.map_cons, List.map_nil, List.length_cons, List.length_nil, Nat.reduceAdd, Nat.reduceSub, List.replicate, List.cons_append, List.nil_append]
  rw [seq_nx t1, seq_nx t2, seq_nx t3, seq_rt t4]
  rfl
end PM
/-! PDG4: what the degrees of all waves add up to, and the greatest of them. -/
namespace PM
open PySem PySem.Spec PyProof.Rows L2 PL PN
theorem mW_le {l h s r W : Int} (hs : 0 < s) (hW : 0 < W) (lh : l ≤ h) (j : Int) : mW l h s r W j ≤ W := by
  unfold mW
  by_cases c : max l (W * j) ≤ min h (W * j + W)
  · have := lanes_le' (r := r) hs c
    omega
  · rw [lanes_none hs (by have := first_ge (l := max l (W * j)) (r := r) hs; omega)]
    omega
theorem degF_le {m y b : Int} (hm : 0 ≤ m) (hb : 0 < b) : degF m y b ≤ m := by
  unfold degF
  by_cases c : m = 0 ∨ y = 0
  · rw [if_pos c]; omega
  · rw [if_neg c]
    have s0 := spread_pos (l := y) hb
    refine Int.ediv_le_of_le_mul s0 ?_
    have k := Int.mul_nonneg (show 0 ≤ m - 1 by omega) (show 0 ≤ spread b y - 1 by omega)
    have e : (m - 1) * (spread b y - 1) = m * spread b y - m - spread b y + 1 := by grind
    omega
theorem degF_small {m y b : Int} (h0 : 0 ≤ m) (h1 : m ≤ 1) (hb : 0 < b) : degF m y b = m := by
  unfold degF
  by_cases c : m = 0 ∨ y = 0
  · rw [if_pos c]; omega
  · rw [if_neg c, show m = 1 by omega, show 1 + spread b y - 1 = spread b y by omega, Int.ediv_self (by have := spread_pos (l := y) hb; omega)]
theorem degF_flat (m b : Int) : degF m 0 b = min m 1 := if_pos (.inr rfl)
theorem mW_lonely {l h s r W : Int} (hs : 0 < s) (hW : 0 < W) (h0 : 0 ≤ r) (h1 : r < s) (w : W ≤ s) (j : Int) : mW l h s r W j ≤ 1 := by
  rcases Int.lt_or_le 1 (mW l h s r W j) with p | p
  · exfalso
    unfold mW at p
    have q := (lanes_lt (l := max l (W * j)) (h := min h (W * j + W)) (r := r) hs (k := 1) (by omega)).mp p
    have g := first_ge (l := max l (W * j)) (r := r) hs
    omega
  · exact p
/-- a lane in a wave: the wave lies between the first and the last -/
theorem mW_pos {l h s r W : Int} (hs : 0 < s) (hW : 0 < W) (h0 : 0 ≤ r) (h1 : r < s) (sW : s < W) (hm : 0 < lanesOf l h s r) {j : Int} (a1 : J0 l s r W ≤ j) (a2 : j ≤ J1 l h s r W) : 0 < mW l h s r W j :=
  lanes_pos hs (wave_has hs hW h0 h1 sW hm a1 a2)
section
variable {l h s r a W B : Int}
theorem sum_dgs (g : Gs l h s r) (hW : 1 ≤ W) (hB : 0 < B) {n : Nat} (hn : h ≤ W * n) : ((dgs l h s r a W B).map fun p => p.1 * p.2).sum = sumI (DGW l h s r W (a * s) B) 0 n := by
  have s0 := g.s0
  have W0 : 0 < W := by omega
  have nn := lanes_nonneg l h s r
  unfold dgs
  by_cases c : a = 0 ∨ W ≤ s
  · rw [if_pos c]
    show 1 * wavesWith l h s r W + 0 = _
    rw [Int.one_mul, Int.add_zero]
    unfold wavesWith
    by_cases w : W ≤ s
    · rw [if_pos (.inr w)]
      have e : sumI (DGW l h s r W (a * s) B) 0 n = sumI (mW l h s r W) 0 n := sumI_congr fun i _ => degF_small (mW_nonneg ..) (mW_lonely s0 W0 g.r0 g.r1 w _) hB
      rw [e, mW_sum s0 W0 g.r0 g.r1 g.l0 g.lh, show max l (min h (W * (n : Int))) = h by have := g.lh; omega]
    · have a0 : a = 0 := by omega
      subst a0
      by_cases m : lanesOf l h s r = 0
      · rw [if_pos (.inl m), m]
        refine (sumI_zero fun i _ => ?_).symm
        unfold DGW
        rw [mW_none s0 W0 g.r0 g.r1 (.inl m), degF_zero]
      · rw [if_neg (by omega)]
        have fl := first_le_last s0 (show 0 < lanesOf l h s r by omega)
        have lh := last_lt s0 (show 0 < lanesOf l h s r by omega)
        have f1 := first_ge (l := l) (r := r) s0
        have l0 := g.l0
        have a0 : 0 ≤ J0 l s r W := Int.ediv_nonneg (by omega) (by omega)
        have a1 : J0 l s r W ≤ J1 l h s r W := Int.ediv_le_ediv W0 fl
        have a2 : J1 l h s r W < n := Int.ediv_lt_of_lt_mul W0 (by rw [Int.mul_comm]; omega)
        rw [sum_inner (A := J0 l s r W) (B := J1 l h s r W) a0 a2 a1 fun j hj => by unfold DGW; rw [mW_none s0 W0 g.r0 g.r1 (.inr hj), degF_zero]]
        have e : sumI (DGW l h s r W (0 * s) B) (J0 l s r W) (J1 l h s r W - J0 l s r W + 1).toNat = sumI (fun _ => 1) 0 (J1 l h s r W - J0 l s r W + 1).toNat := by
          rw [show J0 l s r W = 0 + J0 l s r W by omega, sumI_shift]
          rw [show 0 + J0 l s r W = J0 l s r W by omega]
          refine sumI_congr fun i hi => ?_
          show degF _ (0 * s) B = 1
          rw [Int.zero_mul, degF_flat]
          have := mW_pos s0 W0 g.r0 g.r1 (by omega) (show 0 < lanesOf l h s r by omega) (j := 0 + (i : Int) + J0 l s r W) (by omega) (by omega)
          omega
        rw [e, mul_sum, Int.mul_one]
        show J1 l h s r W - J0 l s r W + 1 = _
        omega
  · rw [if_neg c]
    by_cases m : lanesOf l h s r = 0
    · rw [if_pos m]
      refine (sumI_zero fun i _ => ?_).symm
      unfold DGW
      rw [mW_none s0 W0 g.r0 g.r1 (.inl m), degF_zero]
    · rw [if_neg m]
      have fl := first_le_last s0 (show 0 < lanesOf l h s r by omega)
      have lh := last_lt s0 (show 0 < lanesOf l h s r by omega)
      have f1 := first_ge (l := l) (r := r) s0
      have l0 := g.l0
      have a0 : 0 ≤ J0 l s r W := Int.ediv_nonneg (by omega) (by omega)
      have a1 : J0 l s r W ≤ J1 l h s r W := Int.ediv_le_ediv W0 fl
      have a2 : J1 l h s r W < n := Int.ediv_lt_of_lt_mul W0 (by rw [Int.mul_comm]; omega)
      rw [sum_inner (A := J0 l s r W) (B := J1 l h s r W) a0 a2 a1 fun j hj => by unfold DGW; rw [mW_none s0 W0 g.r0 g.r1 (.inr hj), degF_zero]]
      unfold wvt
      rw [List.map_map, List.map_append, List.sum_append, List.map_map]
      have rs := range_sum (fun v => DGW l h s r W (a * s) B v * ((J1 l h s r W - 1 - v) / perOf s W + 1)) (J0 l s r W + 1) (nIn l h s r W)
      have rs2 : ((List.range (nIn l h s r W)).map ((((fun p : Int × Int => p.1 * p.2) ∘ fun t : Int × Int × Int => (DGW l h s r W (a * s) B t.1, t.2.2))) ∘ fun i : Nat => (J0 l s r W + 1 + (i : Int), perOf s W * W, (J1 l h s r W - 1 - (J0 l s r W + 1 + (i : Int))) / perOf s W + 1))).sum = sumI (fun v => DGW l h s r W (a * s) B v * ((J1 l h s r W - 1 - v) / perOf s W + 1)) (J0 l s r W + 1) (nIn l h s r W) := rs
      rw [rs2]
      by_cases q : J0 l s r W < J1 l h s r W
      · rw [if_pos q]
        refine Eq.trans ?_ (deg_groups s0 W0 g.r0 g.r1 (by omega) (by omega) (per_pos s0 W0) (per_mod s0 W0) (a * s) B q)
        show (DGW l h s r W (a * s) B (J0 l s r W) * 1 + (DGW l h s r W (a * s) B (J1 l h s r W) * 1 + 0)) + _ = _
        rw [Int.mul_one, Int.mul_one, Int.add_zero]
        rfl
      · rw [if_neg q]
        have e : nIn l h s r W = 0 := by unfold nIn; omega
        have e2 : (J1 l h s r W - J0 l s r W + 1).toNat = 1 := by omega
        rw [e, e2]
        show (DGW l h s r W (a * s) B (J0 l s r W) * 1 + 0) + 0 = 0 + DGW l h s r W (a * s) B (J0 l s r W + ((0 : Nat) : Int))
        rw [show J0 l s r W + ((0 : Nat) : Int) = J0 l s r W by omega]
        omega
theorem waves_le (g : Gs l h s r) (hW : 1 ≤ W) : 0 ≤ wavesWith l h s r W ∧ wavesWith l h s r W < 2 ^ 201 := by
  have s0 := g.s0
  have nn := lanes_nonneg l h s r
  have nl := lanes_le' (r := r) s0 g.lh
  have := g.l0
  have := g.hb
  unfold wavesWith
  by_cases c : lanesOf l h s r = 0 ∨ W ≤ s
  · rw [if_pos c]
    exact ⟨nn, by omega⟩
  · rw [if_neg c]
    have fl := first_le_last s0 (show 0 < lanesOf l h s r by omega)
    have lh := last_lt s0 (show 0 < lanesOf l h s r by omega)
    have f1 := first_ge (l := l) (r := r) s0
    have a0 : 0 ≤ J0 l s r W := Int.ediv_nonneg (by omega) (by omega)
    have a1 : J0 l s r W ≤ J1 l h s r W := Int.ediv_le_ediv (by omega) fl
    have a2 : J1 l h s r W ≤ lastOf l h s r := Int.ediv_le_self _ (by omega)
    show 0 ≤ J1 l h s r W - J0 l s r W + 1 ∧ J1 l h s r W - J0 l s r W + 1 < 2 ^ 201
    omega
theorem waves_pos (g : Gs l h s r) (hW : 1 ≤ W) (hm : lanesOf l h s r ≠ 0) : 0 < wavesWith l h s r W := by
  have s0 := g.s0
  have nn := lanes_nonneg l h s r
  unfold wavesWith
  by_cases c : lanesOf l h s r = 0 ∨ W ≤ s
  · rw [if_pos c]
    omega
  · rw [if_neg c]
    have fl := first_le_last s0 (show 0 < lanesOf l h s r by omega)
    have a1 : J0 l s r W ≤ J1 l h s r W := Int.ediv_le_ediv (by omega) fl
    show 0 < J1 l h s r W - J0 l s r W + 1
    omega
theorem dgs_bd (g : Gs l h s r) (hW : 1 ≤ W ∧ W ≤ 32) (hB : 0 < B) : ∀ p ∈ dgs l h s r a W B, p.1.natAbs < 2 ^ 300 ∧ p.2.natAbs < 2 ^ 300 := by
  have s0 := g.s0
  have nn := lanes_nonneg l h s r
  intro p hp
  unfold dgs at hp
  by_cases c : a = 0 ∨ W ≤ s
  · rw [if_pos c, List.mem_singleton] at hp
    subst hp
    have := waves_le g hW.1
    exact ⟨by show (1 : Int).natAbs < 2 ^ 300; decide +kernel, wk (i := 201) (abs_lt this.1 this.2) (by decide)⟩
  · rw [if_neg c] at hp
    by_cases m : lanesOf l h s r = 0
    · rw [if_pos m] at hp; cases hp
    · rw [if_neg m] at hp
      obtain ⟨t, ht, rfl⟩ := List.mem_map.mp hp
      have d0 := degF_nonneg (y := a * s) (mW_nonneg l h s r W t.1) hB
      have d1 := degF_le (y := a * s) (mW_nonneg l h s r W t.1) hB
      have d2 := mW_le (r := r) s0 (show 0 < W by omega) g.lh t.1
      refine ⟨Nat.lt_of_le_of_lt (m := 32) (by show (degF _ _ _).natAbs ≤ 32; omega) (by decide +kernel), ?_⟩
      have one_ : (1 : Int).natAbs < 2 ^ 300 := by decide +kernel
      unfold wvt at ht
      rcases List.mem_append.mp ht with ht | ht
      · rcases List.mem_cons.mp ht with rfl | ht
        · exact one_
        · split at ht
          · rw [List.mem_singleton] at ht; subst ht; exact one_
          · cases ht
      · obtain ⟨i, hi, rfl⟩ := List.mem_map.mp ht
        have hi : i < nIn l h s r W := by simpa using hi
        have lh := last_lt s0 (show 0 < lanesOf l h s r by omega)
        have fl := first_le_last s0 (show 0 < lanesOf l h s r by omega)
        have f1 := first_ge (l := l) (r := r) s0
        have l0 := g.l0
        have hb := g.hb
        have a0 : 0 ≤ J0 l s r W := Int.ediv_nonneg (by omega) (by omega)
        have a2 : J1 l h s r W ≤ lastOf l h s r := Int.ediv_le_self _ (by omega)
        have pp := per_pos s0 (show 0 < W by omega)
        unfold nIn at hi
        have d0 : 0 ≤ (J1 l h s r W - 1 - (J0 l s r W + 1 + (i : Int))) / perOf s W := Int.ediv_nonneg (by omega) (by omega)
        have d1 : (J1 l h s r W - 1 - (J0 l s r W + 1 + (i : Int))) / perOf s W ≤ J1 l h s r W - 1 - (J0 l s r W + 1 + (i : Int)) := Int.ediv_le_self _ (by omega)
        exact wk (i := 200) (abs_lt (by show 0 ≤ _ / _ + 1; omega) (by show _ / _ + 1 < _; omega)) (by decide)
/-- no wave has more than the greatest -/
theorem dgs_ge (g : Gs l h s r) (hW : 1 ≤ W ∧ W ≤ 32) (hB : 0 < B) (j : Int) : DGW l h s r W (a * s) B j ≤ maxI (0 :: ((dgs l h s r a W B).filter fun p => decide (p.2 > 0)).map (·.1)) := by
  have s0 := g.s0
  have W0 : 0 < W := by omega
  have nn := lanes_nonneg l h s r
  have mx : ∀ y ∈ (0 : Int) :: ((dgs l h s r a W B).filter fun p => decide (p.2 > 0)).map (·.1), y ≤ maxI (0 :: ((dgs l h s r a W B).filter fun p => decide (p.2 > 0)).map (·.1)) := (maxI_mem (List.cons_ne_nil _ _)).2
  by_cases z : mW l h s r W j = 0
  · unfold DGW
    rw [z, degF_zero]
    exact mx 0 List.mem_cons_self
  have mn := mW_nonneg l h s r W j
  have m : lanesOf l h s r ≠ 0 := fun q => z (mW_none s0 W0 g.r0 g.r1 (.inl q))
  have j1 : J0 l s r W ≤ j := by
    rcases Int.lt_or_le j (J0 l s r W) with q | q
    · exact absurd (mW_none s0 W0 g.r0 g.r1 (.inr (.inl q))) z
    · exact q
  have j2 : j ≤ J1 l h s r W := by
    rcases Int.lt_or_le (J1 l h s r W) j with q | q
    · exact absurd (mW_none s0 W0 g.r0 g.r1 (.inr (.inr q))) z
    · exact q
  have put : ∀ x k : Int, (x, k) ∈ dgs l h s r a W B → 0 < k → x ≤ maxI (0 :: ((dgs l h s r a W B).filter fun p => decide (p.2 > 0)).map (·.1)) := fun x k hx hk =>
    mx x (List.mem_cons_of_mem _ (List.mem_map.mpr ⟨(x, k), List.mem_filter.mpr ⟨hx, decide_eq_true hk⟩, rfl⟩))
  by_cases c : a = 0 ∨ W ≤ s
  · have := put 1 (wavesWith l h s r W) (by unfold dgs; rw [if_pos c]; exact List.mem_singleton.mpr rfl) (waves_pos g hW.1 m)
    refine Int.le_trans ?_ this
    unfold DGW
    by_cases w : W ≤ s
    · have := mW_lonely (l := l) (h := h) s0 W0 g.r0 g.r1 w j
      have := degF_le (y := a * s) mn hB
      omega
    · rw [show a = 0 by omega, Int.zero_mul, degF_flat]
      omega
  · have inw : ∀ v k : Int, 0 < k → (∃ y, (v, y, k) ∈ wvt l h s r W) → DGW l h s r W (a * s) B v ≤ maxI (0 :: ((dgs l h s r a W B).filter fun p => decide (p.2 > 0)).map (·.1)) := fun v k hk ⟨y, hy⟩ =>
      put _ k (by unfold dgs; rw [if_neg c, if_neg m]; exact List.mem_map.mpr ⟨_, hy, rfl⟩) hk
    by_cases e1 : j = J0 l s r W
    · subst e1
      exact inw _ 1 (by omega) ⟨0, List.mem_append_left _ List.mem_cons_self⟩
    by_cases e2 : j = J1 l h s r W
    · subst e2
      exact inw _ 1 (by omega) ⟨0, List.mem_append_left _ (List.mem_cons_of_mem _ (by rw [if_pos (by omega)]; exact List.mem_singleton.mpr rfl))⟩
    obtain ⟨v, v1, v2, v3, v4⟩ := in_group s0 W0 g.r0 g.r1 (show s < W by omega) (show 0 < lanesOf l h s r by omega) (per_pos s0 W0) (per_mod s0 W0) (j := j) (show J0 l s r W < j by omega) (show j < J1 l h s r W by omega)
    have v1 : J0 l s r W < v := v1
    have v2 : v < J0 l s r W + 1 + perOf s W := v2
    have v3 : v < J1 l h s r W := v3
    have pp := per_pos s0 W0
    have d0 : 0 ≤ (J1 l h s r W - 1 - v) / perOf s W := Int.ediv_nonneg (by omega) (by omega)
    have := inw v ((J1 l h s r W - 1 - v) / perOf s W + 1) (by omega) ⟨perOf s W * W, List.mem_append_right _ (List.mem_map.mpr ⟨(v - (J0 l s r W + 1)).toNat, List.mem_range.mpr (by unfold nIn; omega), by rw [show J0 l s r W + 1 + ((v - (J0 l s r W + 1)).toNat : Int) = v by omega]⟩)⟩
    unfold DGW at *
    rw [v4]
    exact this
end
end PM
/-! PMW: the mirrors of written.py (gen.py --pm prints them at the end of PM). -/
namespace PM
open PySem PySem.Spec PyProof.Rows L2 PL
end PM
/-! PLX1: try: body / except x as n: suite, where the exception's object is kept behind the suite: from then on it is tracked. -/
namespace L2
open PySem PySem.Spec PyProof.Rows
section
variable {X : Cx} {pins : List (Addr × Obj)} {σ : St} {H : Hp} {s : Shared}
/-- an object that stands there already, made since the entry, is tracked from now on -/
theorem Inv.track {a : Addr} {o : HO} (I : Inv X pins σ H s) (hn : H a = none) (new : ObjOk X.prog X.w (upd H a o) s.heap a o) (h0 : X.s_0.heap.get? a = none) (nL : a ≠ X.env.locals) (nC : ∀ x c, X.env.cells.lookup x = some c → c ≠ a)
    (np : ∀ p ∈ X.pn ++ pins, p.1 ≠ a) : Inv X pins σ (upd H a o) s := by
  have ne0 : ∀ b u, X.s_0.heap.get? b = some u → b ≠ a := fun b u e z => by
    rw [z, h0] at e
    cases e
  refine ⟨I.ok, I.os, I.bare, ⟨I.base.keep, I.base.slot, fun b u e n hx => ?_, I.base.there, fun b xs e => ?_, fun b u xs e => ?_, fun b ps e => ?_⟩, I.loc, I.cell, ?_, fun x c e => ?_, fun p hp => ?_, I.hok.laidN (fun _ _ h => h) hn new, I.len⟩
  · rw [upd_ne (ne0 b u e)]
    exact I.base.free b u e n hx
  · have q := I.base.tups b xs e
    rw [upd_ne (ne_of_none q hn)]
    exact q
  · have q := I.base.frzs b u xs e
    rw [upd_ne (ne_of_none q hn)]
    exact q
  · obtain ⟨m, q⟩ := I.base.tbls b ps e
    exact ⟨m, by rw [upd_ne (ne_of_none q hn)]; exact q⟩
  · rw [upd_ne (Ne.symm nL)]
    exact I.free
  · rw [upd_ne (nC x c e)]
    exact I.freeC x c e
  · obtain ⟨e, n, r⟩ := I.pin p hp
    exact ⟨e, by rw [upd_ne (np p hp)]; exact n, r⟩
end
end L2
/-! PLX2: an exception object as a value (PV.exi): caught and kept, isinstance, .value. -/
namespace L2
open PySem PySem.Spec PyProof.Rows
end L2
namespace PL
open PySem PySem.Spec PyProof.Rows L2
/-! ### the classes -/
/-! ### the rules -/
end PL
namespace PL
open PySem
end PL
/-! PXK: an own error made by keyword: E(value=v). -/
/-! PLX3: an own error made as a value: E(v), E(value=v). -/
namespace PL
open PySem PySem.Spec PyProof.Rows L2
section
variable {X : Cx} {Cc D fI : Addr} {nm : Str} {pins : List (Addr × Obj)} {σ : L2.St} {H : Hp} {s : Shared}
/-- a made error, tracked from now on -/
theorem Inv.made {h' : Heap} {tk : Nat} {e d : Addr} {v : V} {v' : Value} (I : L2.Inv X pins σ H s) (hex : X.ex = []) (M : PXE.Made s.heap h' e Cc d v') (rv : RelV v v') :
    L2.Inv X pins σ (upd (upd H d (.xd [(("value" : Str), v)])) e (ExV (.ref Cc) d e)) { s with heap := h', toks := tk } := by
  obtain ⟨oe, fv, hoe, hc, hd, hdat, h1⟩ := M.obj
  have gone : ∀ b o, s.heap.get? b = some o → b ≠ e := fun b o q => Nat.ne_of_lt (Nat.lt_of_lt_of_le (Heap.lt_size q) M.new)
  have ob : ObjOk X.prog X.w (upd H d (.xd [(("value" : Str), v)])) h' d (.xd [(("value" : Str), v)]) := ⟨_, M.ns, fun f => rel_err rv f⟩
  have J : L2.Inv X pins σ (upd H d (.xd [(("value" : Str), v)])) { s with heap := h', toks := tk } := by
    obtain ⟨hp, g, dr, t0, os⟩ := s
    exact I.laid (t' := tk) M.keep M.dbig ob
  refine J.track (by rw [upd_ne (Ne.symm M.dne)]; exact I.hok.fresh M.new) ⟨⟨oe, fv, hoe, ⟨hc, hd⟩, hdat⟩, ⟨oe, hoe⟩, fun _ _ ⟨o, v, q, r⟩ k => ⟨o, v, k o q, r⟩⟩ ?_ ?_ ?_ ?_
  · cases q : X.s_0.heap.get? e with
    | none => rfl
    | some o =>
      obtain ⟨o', q1⟩ := I.base.there e o q (by rw [hex]; exact fun z => nomatch z)
      exact absurd rfl (gone e o' q1)
  · obtain ⟨m, hm, _⟩ := I.loc
    exact Nat.ne_of_gt (Nat.lt_of_lt_of_le hm.lt M.new)
  · intro x c hx
    obtain ⟨v, o', e', _⟩ := I.cell x c hx
    exact gone c o' e'
  · exact fun p hp => gone p.1 _ (I.pin p hp).1
end
end PL
/-! PWZ: small lemmas of the walk (for all newer laws). -/
namespace PM
open PySem PySem.Spec PyProof.Rows L2 PL PN
theorem call1_ok {st : Stt} {m : List SV → List MO → FRes} {f0 : Stt → Res PV} {p0 r : PV} (h0 : f0 st = .ok p0 st) (e : m [.val p0] [] = .ok r []) : eCall m (avN 1 (lPv f0 lNil)) st = .ok r st := by
  simp only [eCall, avN, lPv, lNil, h0, Res.bind_ok, List.length_cons, List.length_nil, Nat.reduceAdd, if_true, lowerA, distinct, getAll, setAll, e]
theorem call2_ok {st : Stt} {m : List SV → List MO → FRes} {f0 f1 : Stt → Res PV} {p0 p1 r : PV} (h0 : f0 st = .ok p0 st) (h1 : f1 st = .ok p1 st) (e : m [.val p0, .val p1] [] = .ok r []) : eCall m (avN 2 (lPv f0 (lPv f1 lNil))) st = .ok r st := by
  simp only [eCall, avN, lPv, lNil, h0, h1, Res.bind_ok, List.length_cons, List.length_nil, Nat.reduceAdd, if_true, lowerA, distinct, getAll, setAll, e]
theorem call4_ok {st : Stt} {m : List SV → List MO → FRes} {f0 f1 f2 f3 : Stt → Res PV} {p0 p1 p2 p3 r : PV} (h0 : f0 st = .ok p0 st) (h1 : f1 st = .ok p1 st) (h2 : f2 st = .ok p2 st) (h3 : f3 st = .ok p3 st) (e : m [.val p0, .val p1, .val p2, .val p3] [] = .ok r []) : eCall m (avN 4 (lPv f0 (lPv f1 (lPv f2 (lPv f3 lNil))))) st = .ok r st := by
  simp only [eCall, avN, lPv, lNil, h0, h1, h2, h3, Res.bind_ok, List.length_cons, List.length_nil, Nat.reduceAdd, if_true, lowerA, distinct, getAll, setAll, e]
theorem call6_ok {st : Stt} {m : List SV → List MO → FRes} {f0 f1 f2 f3 f4 f5 : Stt → Res PV} {p0 p1 p2 p3 p4 p5 r : PV} (h0 : f0 st = .ok p0 st) (h1 : f1 st = .ok p1 st) (h2 : f2 st = .ok p2 st) (h3 : f3 st = .ok p3 st) (h4 : f4 st = .ok p4 st) (h5 : f5 st = .ok p5 st) (e : m [.val p0, .val p1, .val p2, .val p3, .val p4, .val p5] [] = .ok r []) : eCall m (avN 6 (lPv f0 (lPv f1 (lPv f2 (lPv f3 (lPv f4 (lPv f5 lNil))))))) st = .ok r st := by
  simp only [eCall, avN, lPv, lNil, h0, h1, h2, h3, h4, h5, Res.bind_ok, List.length_cons, List.length_nil, Nat.reduceAdd, if_true, lowerA, distinct, getAll, setAll, e]
theorem for_atZ {fi : Stt → Res (List PV)} {a : PV → Stt → Option Stt} {b : Stt → Fl} {s s1 : Stt} {l : List PV} (hi : fi s = .ok l s1) : gFor fi a b s = forL a b l s1 := by
  unfold gFor
  rw [hi]
  rfl
theorem if_noZ {st s1 st1 : Stt} {ft : Stt → Res Bool} {g : Stt → Fl} (h : ft st = .ok false st1) (e : st1 = s1) : gIf ft g gNop st = .nx s1 := by
  subst e
  simp only [gIf, h, Res.fl, Bool.false_eq_true, if_false, gNop]
theorem if_yesZ {st s1 : Stt} {ft : Stt → Res Bool} {g h : Stt → Fl} (t : ft st = .ok true s1) : gIf ft g h st = g s1 := by
  simp only [gIf, t, Res.fl, if_true]
theorem nt_z {st s1 : Stt} {f : Stt → Res Bool} {b : Bool} (h : f st = .ok b s1) : tNt f st = .ok (!b) s1 := by
  simp only [tNt, h, Res.bind_ok]
theorem ne_z {st s1 s2 : Stt} {fa fb : Stt → Res PV} {p q : PV} {z : Bool} (ha : fa st = .ok p s1) (hb : fb s1 = .ok q s2) (h : pEqB p q = some z) : tOf (eBin pNe fa fb) st = .ok (!z) s2 := by
  simp only [tOf, eBin, ha, hb, Res.bind_ok, pNe, h, Option.map_some, Res.opt_some]
theorem eq_z {st s1 s2 : Stt} {fa fb : Stt → Res PV} {p q : PV} {z : Bool} (ha : fa st = .ok p s1) (hb : fb s1 = .ok q s2) (h : pEqB p q = some z) : tOf (eBin pEq fa fb) st = .ok z s2 := by
  simp only [tOf, eBin, ha, hb, Res.bind_ok, pEq, h, Option.map_some, Res.opt_some]
theorem chainLt {st : Stt} {fa fb fc : Stt → Res PV} {i j k : Int} (ha : fa st = .ok (.int i) st) (hb : fb st = .ok (.int j) st) (hc : fc st = .ok (.int k) st) : eChain pLe pLt fa fb fc st = .ok (.bl (decide (i ≤ j ∧ j < k))) st := by
  have e1 : pLe (.int i) (.int j) = some (.bl (decide (i ≤ j))) := rfl
  have e2 : pLt (.int j) (.int k) = some (.bl (decide (j < k))) := rfl
  unfold eChain
  rw [ha, Res.bind_ok, hb, Res.bind_ok, e1]
  by_cases h : i ≤ j
  · rw [decide_eq_true h]
    show ((fc st).bind fun r s3 => Res.opt s3 (pLt (.int j) r)) = _
    rw [hc, Res.bind_ok, e2, Res.opt_some]
    congr 2
    simp [h]
  · rw [decide_eq_false h]
    show Res.ok (PV.bl false) st = _
    congr 2
    simp [h]
theorem tOf_z {st s1 : Stt} {f : Stt → Res PV} {b : Bool} (h : f st = .ok (.bl b) s1) : tOf f st = .ok b s1 := by
  simp only [tOf, h, Res.bind_ok]
theorem tTru_bl {st s1 : Stt} {f : Stt → Res PV} {b : Bool} (h : f st = .ok (.bl b) s1) : tTru f st = .ok b s1 := by
  simp only [tTru, h, Res.bind_ok, pTru, Res.opt_some]
theorem oneZ {g : Stt → Fl} {st s1 : Stt} (h : g st = .nx s1) : gSeq g gNop st = .nx s1 := by
  simp only [gSeq, h, gNop]
theorem compL3 {vs : List Nat} {a : PV → Stt → Option Stt} {fe : Stt → Res PV} {s0 s1 s2 s3 u0 u1 u2 w0 w1 w2 : Stt} {p0 p1 p2 v0 v1 v2 : PV} (a0 : a p0 s0 = some u0) (e0 : fe u0 = .ok v0 w0) (q0 : wipeS vs w0 = s1) (a1 : a p1 s1 = some u1) (e1 : fe u1 = .ok v1 w1) (q1 : wipeS vs w1 = s2)
    (a2 : a p2 s2 = some u2) (e2 : fe u2 = .ok v2 w2) (q2 : wipeS vs w2 = s3) : compL vs a tYesD fe [p0, p1, p2] [] s0 = .ok [v0, v1, v2] s3 := by
  rw [compL_cons _ _ _ _ _ _ _ _ _ a0]
  simp only [tYesD, Res.bind_ok, if_true, e0, List.length_nil]
  rw [if_pos (by decide), q0, compL_cons _ _ _ _ _ _ _ _ _ a1]
  simp only [tYesD, Res.bind_ok, if_true, e1, List.length_cons, List.length_nil, List.nil_append]
  rw [if_pos (by decide), q1, compL_cons _ _ _ _ _ _ _ _ _ a2]
  simp only [tYesD, Res.bind_ok, if_true, e2, List.length_cons, List.length_nil, List.cons_append, List.nil_append]
  rw [if_pos (by decide), q2]
  rfl
/-- a kernel made; its arguments draw -/
theorem makeZ {n : Int} {sts : List PV} {st s1 : Stt} {fa : Stt → Res (List PV)} (ha : fa st = .ok [.int n, .lst sts] s1) (n0 : 1 ≤ n) (hx : ∀ p ∈ sts, m_is_statement [.val p, .val (.int n)] [] = .ok (.bl true) []) :
    eMake "Kernel" PM.m_Kernel___init__ 4 [.tup []] fa st = .ok (kern n sts []) s1 := by
  have hk := e_kernel n n0 sts hx
  unfold eMake
  rw [ha]
  simp only [Res.bind_ok, List.length_cons, List.length_nil, Nat.reduceAdd, if_true, List.cons_append, List.nil_append, List.map_cons, List.map_nil, hk]
end PM
namespace K46
open PySem PySem.Spec PyProof.Rows L2 PL
/-! ### the text by places -/
def top (i : Nat) : Stmt := PySem.Challenge.pw_stridelanes_k46_degrees_of_far_lanes.main.body.getD i (.Pass ⟨0, 0, 0, 0⟩)
abbrev s__law_pool : Stmt := top 48
abbrev s__law_draw : Stmt := top 49
abbrev s__law_common : Stmt := top 55
abbrev s__law_degree : Stmt := top 53
abbrev s__law_own : Stmt := top 50
abbrev s__law_stretch : Stmt := top 54
abbrev s__law_far : Stmt := top 56
abbrev s__law_far_guard : Stmt := top 57
abbrev s__law_pair : Stmt := top 52
abbrev s_check_barriers : Stmt := top 24
abbrev s_is_array : Stmt := top 22
abbrev s_is_guard : Stmt := top 10
abbrev s_is_statement : Stmt := top 23
abbrev s_Kernel___init__ : Stmt := clsAt (top 25) 0
abbrev s_accesses_in : Stmt := top 26
abbrev s_access_list : Stmt := top 27
abbrev s_check_access : Stmt := top 28
abbrev s_check_banks : Stmt := top 41
abbrev s_check_wave : Stmt := top 31
abbrev s_are_lonely : Stmt := top 36
abbrev s_bezout : Stmt := top 14
abbrev s_different_banks : Stmt := top 42
abbrev s_degree_for : Stmt := top 43
abbrev s_first_of : Stmt := top 11
abbrev s_lanes_of : Stmt := top 12
abbrev s_part_in : Stmt := top 32
abbrev s_in_wave : Stmt := top 34
abbrev s_lane_at : Stmt := top 13
abbrev s_last_of : Stmt := top 35
abbrev s_waves_of : Stmt := top 38
abbrev s_waves_with : Stmt := top 37
abbrev s_degrees_of : Stmt := top 44
abbrev s_greatest_degree : Stmt := top 46
abbrev s_total_degree : Stmt := top 45
abbrev s__law_told : Stmt := top 58
abbrev s__law_right : Stmt := top 59
abbrev s_law : Stmt := top 60
/-! ### the mirrors -/
noncomputable def g__law_common : Stt → Fl :=
  (gSeq (gAsg (eVar 0) (aName 2))
  (gSeq (gFor (iRangeW1 (aCons (eVar 1) aNil)) (aName 3)
  (gSeq (gIf (tOf (eBin pEq (eBin pMod (eVar 2) (eVar 1)) (eC (.int 0))))
  (gSeq (gRet (eVar 2))
  gNop)
  gNop)
  (gSeq (gAsg (eBin pAdd (eVar 2) (eVar 0)) (aName 2))
  gNop)))
  (gSeq (gRet (eVar 2))
  gNop)))
noncomputable def m__law_common : List SV → List MO → FRes := mOf 4 g__law_common
noncomputable def g__law_degree : Stt → Fl :=
  (gSeq (gAsgO 2 oDctN)
  (gSeq (gFor (iAny (frz (oSortSet (eVar 0)))) (aName 3)
  (gSeq (gPutD 2 (eBin pMod (eVar 3) (eVar 1)) (eBin pAdd (eGetD 2 (eBin pMod (eVar 3) (eVar 1)) (eC (.int 0))) (eC (.int 1))))
  gNop))
  (gSeq (gRet (eCallB pMax1 (aCons (eBin pAdd (frz (oLst (aCons (eC (.int 0)) aNil))) (eCompD 2 (oComp [4] (iDcv (eVar 2)) (aName 4) tYesD (eIxD (eVar 2) (eVar 4))))) aNil)))
  gNop)))
noncomputable def m__law_degree : List SV → List MO → FRes := mOf 5 g__law_degree
noncomputable def g__law_own : Stt → Fl :=
  (gSeq (gAsg (eVar 0) (aTup 4 (asCons (aName 1) (asCons (aName 2) (asCons (aName 3) (asCons (aName 4) asNil))))))
  (gSeq (gRet (frz (oComp [5] (iRangeW2 (aCons (eVar 1) (aCons (eVar 2) aNil))) (aName 5) (tOf (eBin pEq (eBin pMod (eVar 5) (eVar 3)) (eVar 4))) (eVar 5))))
  gNop))
noncomputable def m__law_own : List SV → List MO → FRes := mOf 6 g__law_own
noncomputable def g__law_stretch : Stt → Fl :=
  (gSeq (gAsgO 6 oDctN)
  (gSeq (gFor (iAny (eCall m__law_own (avN 1 (lPv (eVar 0) lNil)))) (aName 7)
  (gSeq (gPutD 6 (eBin pFdiv (eVar 7) (eVar 3)) (eBin pAdd (eGetD 6 (eBin pFdiv (eVar 7) (eVar 3)) (frz (oLst aNil))) (frz (oLst (aCons (eBin pAdd (eBin pMul (eVar 1) (eVar 7)) (eVar 2)) aNil)))))
  gNop))
  (gSeq (gAsg (eCallB pSum (aCons (eCompD 6 (oComp [10] (iDcv (eVar 6)) (aName 10) tYesD (eLenSet (frz (oComp [11] (iAny (eIxD (eVar 6) (eVar 10))) (aName 11) tYesD (eBin pFdiv (eVar 11) (eVar 4))))))) aNil)) (aName 8))
  (gSeq (gAsg (eCompD 6 (oComp [10] (iDcv (eVar 6)) (aName 10) tYesD (eCall m__law_degree (avN 2 (lPv (eIxD (eVar 6) (eVar 10)) (lPv (eVar 5) lNil)))))) (aName 9))
  (gSeq (gRet (frz (oLst (aCons (eCallB pLen (aCons (eVar 9) aNil)) (aCons (eVar 8) (aCons (eCallB pSum (aCons (eVar 9) aNil)) (aCons (eCallB pMax1 (aCons (eBin pAdd (frz (oLst (aCons (eC (.int 0)) aNil))) (eVar 9)) aNil)) aNil)))))))
  gNop)))))
noncomputable def m__law_stretch : List SV → List MO → FRes := mOf 12 g__law_stretch
noncomputable def g__law_far : Stt → Fl :=
  (gSeq (gAsg (eVar 0) (aTup 4 (asCons (aName 6) (asCons (aName 7) (asCons (aName 8) (asCons (aName 9) asNil))))))
  (gSeq (gAsg (eCall m__law_common (avN 2 (lPv (eCall m__law_common (avN 2 (lPv (eVar 3) (lPv (eVar 8) lNil)))) (lPv (eCall m__law_common (avN 2 (lPv (eVar 4) (lPv (eVar 5) lNil)))) lNil)))) (aName 10))
  (gSeq (gAsg (eCallB pMin2 (aCons (eVar 7) (aCons (eBin pMul (eBin pFdiv (eBin pSub (eBin pAdd (eVar 6) (eVar 3)) (eC (.int 1))) (eVar 3)) (eVar 3)) aNil))) (aName 11))
  (gSeq (gPar 12 13 (aCons (eBin pFdiv (eBin pSub (eVar 7) (eVar 11)) (eVar 10)) (aCons (eBin pMod (eBin pSub (eVar 7) (eVar 11)) (eVar 10)) aNil)))
  (gSeq (gAsg (frz (oLst (aCons (eTup (aCons (eVar 6) (aCons (eVar 11) (aCons (eC (.int 1)) aNil)))) (aCons (eTup (aCons (eVar 11) (aCons (eBin pAdd (eVar 11) (eVar 10)) (aCons (eVar 12) aNil)))) (aCons (eTup (aCons (eVar 11) (aCons (eBin pAdd (eVar 11) (eVar 13)) (aCons (eC (.int 1)) aNil)))) aNil))))) (aName 14))
  (gSeq (gAsg (frz (oLst (aCons (eC (.int 0)) (aCons (eC (.int 0)) (aCons (eC (.int 0)) (aCons (eC (.int 0)) aNil)))))) (aName 15))
  (gSeq (gFor (iAny (eVar 14)) (aTup 3 (asCons (aName 16) (asCons (aName 17) (asCons (aName 18) asNil))))
  (gSeq (gAsg (eTup (aCons (frz (oLst (aCons (eC (.int 0)) (aCons (eC (.int 0)) (aCons (eC (.int 0)) (aCons (eC (.int 0)) aNil)))))) (aCons (eTup (aCons (eVar 16) (aCons (eVar 17) (aCons (eVar 8) (aCons (eVar 9) aNil))))) aNil))) (aTup 2 (asCons (aName 19) (asCons (aName 20) asNil))))
  (gSeq (gIf (tOf (eBin pGt (eVar 18) (eC (.int 0))))
  (gSeq (gAsg (eCall m__law_stretch (avN 6 (lPv (eVar 20) (lPv (eVar 1) (lPv (eVar 2) (lPv (eVar 3) (lPv (eVar 4) (lPv (eVar 5) lNil)))))))) (aName 19))
  gNop)
  gNop)
  (gSeq (gAsg (eBin pAdd (frz (oComp [21] (iRangeW1 (aCons (eC (.int 3)) aNil)) (aName 21) tYesD (eBin pAdd (eBin pIx (eVar 15) (eVar 21)) (eBin pMul (eVar 18) (eBin pIx (eVar 19) (eVar 21)))))) (frz (oLst (aCons (eCallB pMax2 (aCons (eBin pIx (eVar 15) (eC (.int 3))) (aCons (eBin pIx (eVar 19) (eC (.int 3))) aNil))) aNil)))) (aName 15))
  gNop))))
  (gSeq (gRet (eVar 15))
  gNop))))))))
noncomputable def m__law_far : List SV → List MO → FRes := mOf 22 g__law_far
noncomputable def g__law_far_guard : Stt → Fl :=
  (gSeq (gAsg (eBin pIx (frz (oLst (aCons (eBin pPow (eC (.int 10)) (eC (.int 9))) (aCons (eBin pPow (eC (.int 10)) (eC (.int 12))) (aCons (eBin pPow (eC (.int 10)) (eC (.int 17))) (aCons (eBin pPow (eC (.int 10)) (eC (.int 24))) (aCons (eBin pPow (eC (.int 10)) (eC (.int 30))) aNil))))))) (eCall PM.m__law_draw_2 (avN 2 (lSl 0 (lPv (eC (.int 5)) lNil))))) (aName 1))
  (gSeq (gAsg (eBin pSub (eVar 1) (eCall PM.m__law_draw_2 (avN 2 (lSl 0 (lPv (eBin pPow (eC (.int 10)) (eC (.int 6))) lNil))))) (aName 2))
  (gSeq (gAsg (eBin pIx (frz (oLst (aCons (eC (.int 0)) (aCons (eCall PM.m__law_draw_2 (avN 2 (lSl 0 (lPv (eC (.int 100)) lNil)))) (aCons (eCall PM.m__law_draw_2 (avN 2 (lSl 0 (lPv (eVar 2) lNil)))) aNil))))) (eCall PM.m__law_draw_2 (avN 2 (lSl 0 (lPv (eC (.int 3)) lNil))))) (aName 3))
  (gSeq (gAsg (eBin pIx (frz (oLst (aCons (eVar 2) (aCons (eBin pAdd (eVar 3) (eCall PM.m__law_draw_2 (avN 2 (lSl 0 (lPv (eBin pAdd (eBin pSub (eVar 2) (eVar 3)) (eC (.int 1))) lNil))))) aNil)))) (eCall PM.m__law_draw_2 (avN 2 (lSl 0 (lPv (eC (.int 2)) lNil))))) (aName 4))
  (gSeq (gAsg (eBin pIx (frz (oLst (aCons (eC (.int 1)) (aCons (eC (.int 1)) (aCons (eC (.int 2)) (aCons (eC (.int 3)) (aCons (eC (.int 5)) (aCons (eC (.int 7)) (aCons (eBin pAdd (eC (.int 8)) (eCall PM.m__law_draw_2 (avN 2 (lSl 0 (lPv (eC (.int 24)) lNil))))) aNil))))))))) (eCall PM.m__law_draw_2 (avN 2 (lSl 0 (lPv (eC (.int 7)) lNil))))) (aName 5))
  (gSeq (gRet (eTup (aCons (eTup (aCons (eVar 3) (aCons (eVar 4) (aCons (eVar 5) (aCons (eCall PM.m__law_draw_2 (avN 2 (lSl 0 (lPv (eVar 5) lNil)))) aNil))))) (aCons (eVar 2) aNil))))
  gNop))))))
noncomputable def m__law_far_guard : List SV → List MO → FRes := mOf 6 g__law_far_guard
noncomputable def g__law_pair : Stt → Fl :=
  (gSeq (gRet (eTup (aCons (eBin pIx (frz (oLst (aCons (eC (.int 1)) (aCons (eC (.int 1)) (aCons (eUn pNeg (eC (.int 1))) (aCons (eC (.int 0)) (aCons (eC (.int 2)) (aCons (eUn pNeg (eC (.int 2))) (aCons (eC (.int 3)) (aCons (eUn pNeg (eC (.int 3))) aNil)))))))))) (eCall PM.m__law_draw_2 (avN 2 (lSl 0 (lPv (eC (.int 8)) lNil))))) (aCons (eBin pSub (eCall PM.m__law_draw_2 (avN 2 (lSl 0 (lPv (eBin pAdd (eBin pMul (eC (.int 2)) (eVar 1)) (eC (.int 1))) lNil)))) (eVar 1)) aNil))))
  gNop)
noncomputable def m__law_pair : List SV → List MO → FRes := mOf 2 g__law_pair
noncomputable def g_degrees_of : Stt → Fl :=
  (gSeq (gAsg (eCall PM.m_part_in (avN 2 (lPv (eVar 0) (lPv (eBin pIx (eCall PM.m_access_list (avN 1 (lPv (eVar 0) lNil))) (eVar 1)) lNil)))) (aTup 3 (asCons (aName 4) (asCons (aName 5) (asCons (aName 6) asNil)))))
  (gSeq (gIf (tOrr (tOf (eBin pEq (eVar 5) (eC (.int 0)))) (tTru (eCall PM.m_are_lonely (avN 2 (lPv (eVar 4) (lPv (eVar 2) lNil))))))
  (gSeq (gRet (frz (oLst (aCons (eTup (aCons (eC (.int 1)) (aCons (eCall PM.m_waves_with (avN 2 (lPv (eVar 4) (lPv (eVar 2) lNil)))) aNil))) aNil))))
  gNop)
  gNop)
  (gSeq (gAsg (eBin pMul (eVar 5) (eBin pIx (eVar 4) (eC (.int 2)))) (aName 7))
  (gSeq (gRet (frz (oComp [8, 9, 10] (iAny (eCall PM.m_waves_of (avN 2 (lPv (eVar 4) (lPv (eVar 2) lNil))))) (aTup 3 (asCons (aName 8) (asCons (aName 9) (asCons (aName 10) asNil)))) tYesD (eTup (aCons (eCall PM.m_degree_for (avN 3 (lPv (eCall PM.m_lanes_of (avN 1 (lPv (eVar 8) lNil))) (lPv (eVar 7) (lPv (eVar 3) lNil))))) (aCons (eVar 10) aNil))))))
  gNop))))
noncomputable def m_degrees_of : List SV → List MO → FRes := mOf 11 g_degrees_of
noncomputable def g_greatest_degree : Stt → Fl :=
  (gSeq (gDrop (eCall PM.m_check_access (avN 2 (lPv (eVar 0) (lPv (eVar 1) lNil)))))
  (gSeq (gDrop (eCall PM.m_check_wave (avN 1 (lPv (eVar 2) lNil))))
  (gSeq (gDrop (eCall PM.m_check_banks (avN 1 (lPv (eVar 3) lNil))))
  (gSeq (gRet (eCallB pMax1 (aCons (frz (oLst (aCons (eC (.int 0)) (aStar (frz (oComp [4, 5] (iAny (eCall m_degrees_of (avN 4 (lPv (eVar 0) (lPv (eVar 1) (lPv (eVar 2) (lPv (eVar 3) lNil))))))) (aTup 2 (asCons (aName 4) (asCons (aName 5) asNil))) (tOf (eBin pGt (eVar 5) (eC (.int 0)))) (eVar 4))) aNil)))) aNil)))
  gNop))))
noncomputable def m_greatest_degree : List SV → List MO → FRes := mOf 6 g_greatest_degree
noncomputable def g_total_degree : Stt → Fl :=
  (gSeq (gDrop (eCall PM.m_check_access (avN 2 (lPv (eVar 0) (lPv (eVar 1) lNil)))))
  (gSeq (gDrop (eCall PM.m_check_wave (avN 1 (lPv (eVar 2) lNil))))
  (gSeq (gDrop (eCall PM.m_check_banks (avN 1 (lPv (eVar 3) lNil))))
  (gSeq (gRet (eCallB pSum (aCons (frz (oComp [4, 5] (iAny (eCall m_degrees_of (avN 4 (lPv (eVar 0) (lPv (eVar 1) (lPv (eVar 2) (lPv (eVar 3) lNil))))))) (aTup 2 (asCons (aName 4) (asCons (aName 5) asNil))) tYesD (eBin pMul (eVar 4) (eVar 5)))) aNil)))
  gNop))))
noncomputable def m_total_degree : List SV → List MO → FRes := mOf 6 g_total_degree
noncomputable def g__law_told : Stt → Fl :=
  (gSeq (gAsg (eMake "Kernel" PM.m_Kernel___init__ 4 [.tup []] (aCons (eVar 0) (aCons (frz (oLst (aCons (eTup (aCons (eC (.str "put")) (aCons (eVar 1) (aCons (eC (.str "x")) (aCons (eVar 2) (aCons (eVar 3) (aCons (eC (.int 0)) (aCons (eC (.int 0)) aNil)))))))) aNil))) aNil))) (aName 6))
  (gSeq (gRet (frz (oLst (aCons (eCall m_total_degree (avN 4 (lPv (eVar 6) (lPv (eC (.int 0)) (lPv (eVar 4) (lPv (eVar 5) lNil)))))) (aCons (eCall m_greatest_degree (avN 4 (lPv (eVar 6) (lPv (eC (.int 0)) (lPv (eVar 4) (lPv (eVar 5) lNil)))))) aNil)))))
  gNop))
noncomputable def m__law_told : List SV → List MO → FRes := mOf 7 g__law_told
noncomputable def g__law_right : Stt → Fl :=
  (gSeq (gAsg (eCall m__law_far_guard (avN 1 (lSl 0 lNil))) (aTup 2 (asCons (aName 1) (asCons (aName 2) asNil))))
  (gSeq (gAsg (eCall m__law_pair (avN 2 (lSl 0 (lPv (eC (.int 40)) lNil)))) (aTup 2 (asCons (aName 3) (asCons (aName 4) asNil))))
  (gSeq (gAsg (eBin pIx (frz (oLst (aCons (eBin pAdd (eC (.int 1)) (eCall PM.m__law_draw_2 (avN 2 (lSl 0 (lPv (eC (.int 8)) lNil))))) (aCons (eC (.int 16)) (aCons (eC (.int 32)) (aCons (eBin pAdd (eC (.int 1)) (eCall PM.m__law_draw_2 (avN 2 (lSl 0 (lPv (eC (.int 32)) lNil))))) aNil)))))) (eCall PM.m__law_draw_2 (avN 2 (lSl 0 (lPv (eC (.int 4)) lNil))))) (aName 5))
  (gSeq (gAsg (eBin pAdd (eC (.int 1)) (eCall PM.m__law_draw_2 (avN 2 (lSl 0 (lPv (eBin pIx (frz (oLst (aCons (eC (.int 12)) (aCons (eC (.int 40)) aNil)))) (eCall PM.m__law_draw_2 (avN 2 (lSl 0 (lPv (eC (.int 2)) lNil))))) lNil))))) (aName 6))
  (gSeq (gAsg (eSl (eCall m__law_far (avN 6 (lPv (eVar 1) (lPv (eVar 3) (lPv (eVar 4) (lPv (eVar 5) (lPv (eC (.int 1)) (lPv (eVar 6) lNil)))))))) (pSo (eC (.int 2))) pNo) (aName 7))
  (gSeq (gIf (tOf (eBin pNe (eCall m__law_told (avN 6 (lPv (eVar 2) (lPv (eVar 1) (lPv (eVar 3) (lPv (eVar 4) (lPv (eVar 5) (lPv (eVar 6) lNil)))))))) (eVar 7)))
  (gSeq (gRet (eC (.bl false)))
  gNop)
  gNop)
  (gSeq (gIf (tOf (eBin pNe (eCall m__law_told (avN 6 (lPv (eVar 2) (lPv (eVar 1) (lPv (eVar 3) (lPv (eBin pSub (eCall PM.m__law_draw_2 (avN 2 (lSl 0 (lPv (eBin pPow (eC (.int 10)) (eC (.int 20))) lNil)))) (eBin pPow (eC (.int 10)) (eC (.int 19)))) (lPv (eVar 5) (lPv (eVar 6) lNil)))))))) (eVar 7)))
  (gSeq (gRet (eC (.bl false)))
  gNop)
  gNop)
  (gSeq (gAsg (eBin pAdd (eVar 3) (eBin pMul (eVar 6) (eBin pAdd (eC (.int 1)) (eCall PM.m__law_draw_2 (avN 2 (lSl 0 (lPv (eBin pPow (eC (.int 10)) (eC (.int 20))) lNil))))))) (aName 8))
  (gSeq (gRet (eOr (eBin pEq (eVar 3) (eC (.int 0))) (eOr (eBin pEq (eVar 8) (eC (.int 0))) (eBin pEq (eCall m__law_told (avN 6 (lPv (eVar 2) (lPv (eVar 1) (lPv (eVar 8) (lPv (eVar 4) (lPv (eVar 5) (lPv (eVar 6) lNil)))))))) (eVar 7)))))
  gNop)))))))))
noncomputable def m__law_right : List SV → List MO → FRes := mOf 9 g__law_right
noncomputable def g_law : Stt → Fl :=
  (gSeq (gFor (iRangeW1 (aCons (eCallB pMax2 (aCons (eC (.int 1)) (aCons (eCallB pMin2 (aCons (eC (.int 6)) (aCons (eCallB pLen (aCons (eVar 0) aNil)) aNil))) aNil))) aNil)) (aName 1)
  (gSeq (gAsgO 2 (oCall PM.m__law_pool (avN 2 (lPv (eVar 0) (lPv (eVar 1) lNil)))))
  (gSeq (gFor (iRangeW1 (aCons (eC (.int 4)) aNil)) (aName 3)
  (gSeq (gIf (tNt (tTru (eCall m__law_right (avN 1 (lSl 2 lNil)))))
  (gSeq (gRet (eC (.bl false)))
  gNop)
  gNop)
  gNop))
  gNop)))
  (gSeq (gAsg (eBin pPow (eC (.int 10)) (eC (.int 30))) (aName 4))
  (gSeq (gRet (eBin pEq (eCall m__law_told (avN 6 (lPv (eVar 4) (lPv (eTup (aCons (eC (.int 0)) (aCons (eVar 4) (aCons (eC (.int 1)) (aCons (eC (.int 0)) aNil))))) (lPv (eC (.int 4)) (lPv (eC (.int 0)) (lPv (eC (.int 32)) (lPv (eC (.int 8)) lNil)))))))) (frz (oLst (aCons (eBin pFdiv (eVar 4) (eC (.int 2))) (aCons (eC (.int 16)) aNil))))))
  gNop)))
noncomputable def m_law : List SV → List MO → FRes := mOf 5 g_law
/-! ### what the top has left -/
structure Txt (P : Program) (w : World) (K : PySem.W.Frag) (mg : Str → Option Value) (cl : Str → Addr) where
  a__law_pool : Addr
  fd__law_pool : FuncData
  F__law_pool : Fun K "_law_pool" "_law_pool" s__law_pool a__law_pool fd__law_pool
  b__law_pool : Binds K fd__law_pool ["script", "at"] []
  mg__law_pool : mg "_law_pool" = some (.ref a__law_pool)
  a__law_draw : Addr
  fd__law_draw : FuncData
  F__law_draw : Fun K "_law_draw" "_law_draw" s__law_draw a__law_draw fd__law_draw
  b__law_draw : Binds K fd__law_draw ["pool", "many"] []
  mg__law_draw : mg "_law_draw" = some (.ref a__law_draw)
  a__law_common : Addr
  fd__law_common : FuncData
  F__law_common : Fun K "_law_common" "_law_common" s__law_common a__law_common fd__law_common
  b__law_common : Binds K fd__law_common ["one", "other"] []
  mg__law_common : mg "_law_common" = some (.ref a__law_common)
  a__law_degree : Addr
  fd__law_degree : FuncData
  F__law_degree : Fun K "_law_degree" "_law_degree" s__law_degree a__law_degree fd__law_degree
  b__law_degree : Binds K fd__law_degree ["cells", "banks_here"] []
  mg__law_degree : mg "_law_degree" = some (.ref a__law_degree)
  a__law_own : Addr
  fd__law_own : FuncData
  F__law_own : Fun K "_law_own" "_law_own" s__law_own a__law_own fd__law_own
  b__law_own : Binds K fd__law_own ["guard"] []
  mg__law_own : mg "_law_own" = some (.ref a__law_own)
  a__law_stretch : Addr
  fd__law_stretch : FuncData
  F__law_stretch : Fun K "_law_stretch" "_law_stretch" s__law_stretch a__law_stretch fd__law_stretch
  b__law_stretch : Binds K fd__law_stretch ["guard", "a", "b", "span", "far", "banks_here"] []
  mg__law_stretch : mg "_law_stretch" = some (.ref a__law_stretch)
  a__law_far : Addr
  fd__law_far : FuncData
  F__law_far : Fun K "_law_far" "_law_far" s__law_far a__law_far fd__law_far
  b__law_far : Binds K fd__law_far ["guard", "a", "b", "span", "far", "banks_here"] []
  mg__law_far : mg "_law_far" = some (.ref a__law_far)
  a__law_far_guard : Addr
  fd__law_far_guard : FuncData
  F__law_far_guard : Fun K "_law_far_guard" "_law_far_guard" s__law_far_guard a__law_far_guard fd__law_far_guard
  b__law_far_guard : Binds K fd__law_far_guard ["pool"] []
  mg__law_far_guard : mg "_law_far_guard" = some (.ref a__law_far_guard)
  a__law_pair : Addr
  fd__law_pair : FuncData
  F__law_pair : Fun K "_law_pair" "_law_pair" s__law_pair a__law_pair fd__law_pair
  b__law_pair : Binds K fd__law_pair ["pool", "most"] []
  mg__law_pair : mg "_law_pair" = some (.ref a__law_pair)
  a_check_barriers : Addr
  fd_check_barriers : FuncData
  F_check_barriers : Fun K "check_barriers" "check_barriers" s_check_barriers a_check_barriers fd_check_barriers
  b_check_barriers : Binds K fd_check_barriers ["barriers", "size"] []
  mg_check_barriers : mg "check_barriers" = some (.ref a_check_barriers)
  a_is_array : Addr
  fd_is_array : FuncData
  F_is_array : Fun K "is_array" "is_array" s_is_array a_is_array fd_is_array
  b_is_array : Binds K fd_is_array ["name"] []
  mg_is_array : mg "is_array" = some (.ref a_is_array)
  a_is_guard : Addr
  fd_is_guard : FuncData
  F_is_guard : Fun K "is_guard" "is_guard" s_is_guard a_is_guard fd_is_guard
  b_is_guard : Binds K fd_is_guard ["guard"] []
  mg_is_guard : mg "is_guard" = some (.ref a_is_guard)
  a_is_statement : Addr
  fd_is_statement : FuncData
  F_is_statement : Fun K "is_statement" "is_statement" s_is_statement a_is_statement fd_is_statement
  b_is_statement : Binds K fd_is_statement ["statement", "lanes"] []
  mg_is_statement : mg "is_statement" = some (.ref a_is_statement)
  a_Kernel___init__ : Addr
  fd_Kernel___init__ : FuncData
  F_Kernel___init__ : FunX K "__init__" "Kernel.__init__" s_Kernel___init__ a_Kernel___init__ fd_Kernel___init__
  bd_Kernel___init__ : ∃ u, Binds K fd_Kernel___init__ ["self", "lanes", "statements", "barriers"] [u] ∧ KvV K u (.tup [])
  a_accesses_in : Addr
  fd_accesses_in : FuncData
  F_accesses_in : Fun K "accesses_in" "accesses_in" s_accesses_in a_accesses_in fd_accesses_in
  b_accesses_in : Binds K fd_accesses_in ["number", "statement"] []
  mg_accesses_in : mg "accesses_in" = some (.ref a_accesses_in)
  a_access_list : Addr
  fd_access_list : FuncData
  F_access_list : Fun K "access_list" "access_list" s_access_list a_access_list fd_access_list
  b_access_list : Binds K fd_access_list ["kernel"] []
  mg_access_list : mg "access_list" = some (.ref a_access_list)
  a_check_access : Addr
  fd_check_access : FuncData
  F_check_access : Fun K "check_access" "check_access" s_check_access a_check_access fd_check_access
  b_check_access : Binds K fd_check_access ["kernel", "number"] []
  mg_check_access : mg "check_access" = some (.ref a_check_access)
  a_check_banks : Addr
  fd_check_banks : FuncData
  F_check_banks : Fun K "check_banks" "check_banks" s_check_banks a_check_banks fd_check_banks
  b_check_banks : Binds K fd_check_banks ["banks"] []
  mg_check_banks : mg "check_banks" = some (.ref a_check_banks)
  a_check_wave : Addr
  fd_check_wave : FuncData
  F_check_wave : Fun K "check_wave" "check_wave" s_check_wave a_check_wave fd_check_wave
  b_check_wave : Binds K fd_check_wave ["wave"] []
  mg_check_wave : mg "check_wave" = some (.ref a_check_wave)
  a_are_lonely : Addr
  fd_are_lonely : FuncData
  F_are_lonely : Fun K "are_lonely" "are_lonely" s_are_lonely a_are_lonely fd_are_lonely
  b_are_lonely : Binds K fd_are_lonely ["guard", "wave"] []
  mg_are_lonely : mg "are_lonely" = some (.ref a_are_lonely)
  a_bezout : Addr
  fd_bezout : FuncData
  F_bezout : Fun K "bezout" "bezout" s_bezout a_bezout fd_bezout
  b_bezout : Binds K fd_bezout ["one", "other"] []
  mg_bezout : mg "bezout" = some (.ref a_bezout)
  a_different_banks : Addr
  fd_different_banks : FuncData
  F_different_banks : Fun K "different_banks" "different_banks" s_different_banks a_different_banks fd_different_banks
  b_different_banks : Binds K fd_different_banks ["by", "banks"] []
  mg_different_banks : mg "different_banks" = some (.ref a_different_banks)
  a_degree_for : Addr
  fd_degree_for : FuncData
  F_degree_for : Fun K "degree_for" "degree_for" s_degree_for a_degree_for fd_degree_for
  b_degree_for : Binds K fd_degree_for ["many", "by", "banks"] []
  mg_degree_for : mg "degree_for" = some (.ref a_degree_for)
  a_first_of : Addr
  fd_first_of : FuncData
  F_first_of : Fun K "first_of" "first_of" s_first_of a_first_of fd_first_of
  b_first_of : Binds K fd_first_of ["guard"] []
  mg_first_of : mg "first_of" = some (.ref a_first_of)
  a_lanes_of : Addr
  fd_lanes_of : FuncData
  F_lanes_of : Fun K "lanes_of" "lanes_of" s_lanes_of a_lanes_of fd_lanes_of
  b_lanes_of : Binds K fd_lanes_of ["guard"] []
  mg_lanes_of : mg "lanes_of" = some (.ref a_lanes_of)
  a_part_in : Addr
  fd_part_in : FuncData
  F_part_in : Fun K "part_in" "part_in" s_part_in a_part_in fd_part_in
  b_part_in : Binds K fd_part_in ["kernel", "access"] []
  mg_part_in : mg "part_in" = some (.ref a_part_in)
  a_in_wave : Addr
  fd_in_wave : FuncData
  F_in_wave : Fun K "in_wave" "in_wave" s_in_wave a_in_wave fd_in_wave
  b_in_wave : Binds K fd_in_wave ["guard", "wave", "number"] []
  mg_in_wave : mg "in_wave" = some (.ref a_in_wave)
  a_lane_at : Addr
  fd_lane_at : FuncData
  F_lane_at : Fun K "lane_at" "lane_at" s_lane_at a_lane_at fd_lane_at
  b_lane_at : Binds K fd_lane_at ["guard", "number"] []
  mg_lane_at : mg "lane_at" = some (.ref a_lane_at)
  a_last_of : Addr
  fd_last_of : FuncData
  F_last_of : Fun K "last_of" "last_of" s_last_of a_last_of fd_last_of
  b_last_of : Binds K fd_last_of ["guard"] []
  mg_last_of : mg "last_of" = some (.ref a_last_of)
  a_waves_of : Addr
  fd_waves_of : FuncData
  F_waves_of : Fun K "waves_of" "waves_of" s_waves_of a_waves_of fd_waves_of
  b_waves_of : Binds K fd_waves_of ["guard", "wave"] []
  mg_waves_of : mg "waves_of" = some (.ref a_waves_of)
  a_waves_with : Addr
  fd_waves_with : FuncData
  F_waves_with : Fun K "waves_with" "waves_with" s_waves_with a_waves_with fd_waves_with
  b_waves_with : Binds K fd_waves_with ["guard", "wave"] []
  mg_waves_with : mg "waves_with" = some (.ref a_waves_with)
  a_degrees_of : Addr
  fd_degrees_of : FuncData
  F_degrees_of : Fun K "degrees_of" "degrees_of" s_degrees_of a_degrees_of fd_degrees_of
  b_degrees_of : Binds K fd_degrees_of ["kernel", "access", "wave", "banks"] []
  mg_degrees_of : mg "degrees_of" = some (.ref a_degrees_of)
  a_greatest_degree : Addr
  fd_greatest_degree : FuncData
  F_greatest_degree : Fun K "greatest_degree" "greatest_degree" s_greatest_degree a_greatest_degree fd_greatest_degree
  b_greatest_degree : Binds K fd_greatest_degree ["kernel", "access", "wave", "banks"] []
  mg_greatest_degree : mg "greatest_degree" = some (.ref a_greatest_degree)
  a_total_degree : Addr
  fd_total_degree : FuncData
  F_total_degree : Fun K "total_degree" "total_degree" s_total_degree a_total_degree fd_total_degree
  b_total_degree : Binds K fd_total_degree ["kernel", "access", "wave", "banks"] []
  mg_total_degree : mg "total_degree" = some (.ref a_total_degree)
  a__law_told : Addr
  fd__law_told : FuncData
  F__law_told : Fun K "_law_told" "_law_told" s__law_told a__law_told fd__law_told
  b__law_told : Binds K fd__law_told ["total", "guard", "a", "b", "span", "many"] []
  mg__law_told : mg "_law_told" = some (.ref a__law_told)
  a__law_right : Addr
  fd__law_right : FuncData
  F__law_right : Fun K "_law_right" "_law_right" s__law_right a__law_right fd__law_right
  b__law_right : Binds K fd__law_right ["pool"] []
  mg__law_right : mg "_law_right" = some (.ref a__law_right)
  a_law : Addr
  fd_law : FuncData
  F_law : Fun K "law" "law" s_law a_law fd_law
  b_law : Binds K fd_law ["script"] []
  mg_law : mg "law" = some (.ref a_law)
  z_abs : mg "abs" = none
  z_all : mg "all" = none
  z_enumerate : mg "enumerate" = none
  z_len : mg "len" = none
  z_max : mg "max" = none
  z_min : mg "min" = none
  z_range : mg "range" = none
  z_set : mg "set" = none
  z_sorted : mg "sorted" = none
  z_sum : mg "sum" = none
  z_tuple : mg "tuple" = none
  n_MOST_LETTERS : ∃ u, mg "MOST_LETTERS" = some u ∧ RelV (.int 8) u
  n_LETTERS : ∃ u, mg "LETTERS" = some u ∧ RelV (.str "abcdefghijklmnopqrstuvwxyz") u
  n_READ : ∃ u, mg "READ" = some u ∧ RelV (.str "read") u
  n_WRITE : ∃ u, mg "WRITE" = some u ∧ RelV (.str "write") u
  n_MOST_BANKS : ∃ u, mg "MOST_BANKS" = some u ∧ RelV (.int 4096) u
  n_MOST_WAVE : ∃ u, mg "MOST_WAVE" = some u ∧ RelV (.int 32) u
  mg_Kernel : mg "Kernel" = some (.ref (cl "Kernel"))
  k_Kernel : Cls K (cl "Kernel")
  mk_Kernel : Mk K (cl "Kernel") a_Kernel___init__
  na_Kernel_lane_count : NoAttr K (cl "Kernel") "lane_count"
  na_Kernel_kept_statements : NoAttr K (cl "Kernel") "kept_statements"
  na_Kernel_kept_barriers : NoAttr K (cl "Kernel") "kept_barriers"
  d_ITEMS : DctT w K mg "ITEMS" [("put", .int 7), ("move", .int 9), ("sum", .int 11)]
  d_PLACES : DctT w K mg "PLACES" [("put", .tup [.int 2]), ("move", .tup [.int 2, .int 5]), ("sum", .tup [.int 2, .int 5, .int 8])]
section
variable {P : Program} {w : World} {K : PySem.W.Frag} {mg : Str → Option Value} {base : Heap} {cl : Str → Addr}
theorem sc__law_pool : FnScope ["script", "at", "taken"] ["script", "at"] (defScope s__law_pool) := ⟨rfl, rfl, rfl, by decide +kernel, rfl, by decide +kernel, by decide +kernel⟩
theorem ok__law_pool (T : Txt P w K mg cl) : FnP P w K mg base cl 1 T.a__law_pool T.fd__law_pool ["script", "at"] PM.m__law_pool :=
  fnp (N := ["script", "at", "taken"]) (ps := ["script", "at"]) (k := 0) T.F__law_pool sc__law_pool rfl fun cdv A outer s H E C hK hcl hr bd => by
    subst hcl
    have nd := sc__law_pool.nd
    have hu64 := hr.units
    have hu65 : (A.deeper (envOfC "_law_pool" (defScope s__law_pool) s.heap.objs.size T.a__law_pool cdv)).units + 65 < cLine := by have := hr.un; omega
    exact (dss_cons (ds_set (i := 2) nd rfl (Or.inl rfl) dv_int)
      (dss_cons (ds_if (dt_cmp op_lt d_lt (dv_var 1) (dv_callB call_len (c_len hK.symm) rfl T.z_len (by decide +kernel) (da_cons (dv_var 0) da_nil)) (by rfl))
      (dss_cons (ds_set (i := 2) nd rfl (Or.inl rfl) (dv_ix hK.symm (dv_var 0) (dv_var 1) (fun _ _ => rfl)))
      dss_nil)
      dss_nil)
      (dss_cons (ds_retO (do_lst (da_cons (dv_callB (call_max2 bd.calm) c_max2 rfl T.z_max (by decide +kernel) (da_cons dv_int (da_cons (dv_op op_sub d_sub (dv_callB call_abs c_abs rfl T.z_abs (by decide +kernel) (da_cons (dv_var 2) da_nil)) (dv_op op_powA d_pow dv_int dv_int)) da_nil))) (da_cons (dv_op op_addA (d_add hK.symm) (dv_op op_modN d_mod (dv_var 2) dv_int) (dv_op op_mulA d_mul dv_int (dv_op op_addA (d_add hK.symm) (dv_var 1) dv_int))) (da_cons dv_int da_nil)))))
      dss_nil)))
theorem sc__law_draw : FnScope ["pool", "many", "drawn", "mixed"] ["pool", "many"] (defScope s__law_draw) := ⟨rfl, rfl, rfl, by decide +kernel, rfl, by decide +kernel, by decide +kernel⟩
theorem ok__law_draw (T : Txt P w K mg cl) : FnP P w K mg base cl 1 T.a__law_draw T.fd__law_draw ["pool", "many"] PM.m__law_draw_2 :=
  fnp (N := ["pool", "many", "drawn", "mixed"]) (ps := ["pool", "many"]) (k := 0) T.F__law_draw sc__law_draw rfl fun cdv A outer s H E C hK hcl hr bd => by
    subst hcl
    have nd := sc__law_draw.nd
    have hu64 := hr.units
    have hu65 : (A.deeper (envOfC "_law_draw" (defScope s__law_draw) s.heap.objs.size T.a__law_draw cdv)).units + 65 < cLine := by have := hr.un; omega
    exact (dss_cons (ds_if (dt_cmp op_gt d_gt (dv_ixM 0 dv_int (fun _ _ => rfl)) dv_int (by rfl))
      (dss_cons (ds_set (i := 2) nd rfl (Or.inl rfl) (dv_op op_modN d_mod (dv_ixM 0 dv_int (fun _ _ => rfl)) (dv_var 1)))
      (dss_cons (ds_setIx 0 (dv_op op_fdivA d_fdiv (dv_ixM 0 dv_int (fun _ _ => rfl)) (dv_var 1)) dv_int)
      (dss_cons (ds_ret (dv_var 2))
      dss_nil)))
      dss_nil)
      (dss_cons (ds_setIx 0 (dv_op op_addA (d_add hK.symm) (dv_ixM 0 dv_int (fun _ _ => rfl)) dv_int) dv_int)
      (dss_cons (ds_set (i := 3) nd rfl (Or.inl rfl) (dv_op op_modN d_mod (dv_op op_powA d_pow (dv_op op_addA (d_add hK.symm) (dv_ixM 0 dv_int (fun _ _ => rfl)) (dv_op op_mulA d_mul dv_int (dv_ixM 0 dv_int (fun _ _ => rfl)))) dv_int) dv_int))
      (dss_cons (ds_set (i := 3) nd rfl (Or.inl rfl) (dv_op op_modN d_mod (dv_op op_powA d_pow (dv_op op_addA (d_add hK.symm) (dv_var 3) (dv_op op_mulA d_mul dv_int (dv_ixM 0 dv_int (fun _ _ => rfl)))) dv_int) dv_int))
      (dss_cons (ds_ret (dv_op op_modN d_mod (dv_op op_fdivA d_fdiv (dv_var 3) dv_int) (dv_var 1)))
      dss_nil)))))
theorem sc__law_common : FnScope ["one", "other", "found", "times"] ["one", "other"] (defScope s__law_common) := ⟨rfl, rfl, rfl, by decide +kernel, rfl, by decide +kernel, by decide +kernel⟩
theorem ok__law_common (T : Txt P w K mg cl) : FnP P w K mg base cl 1 T.a__law_common T.fd__law_common ["one", "other"] m__law_common :=
  fnp (N := ["one", "other", "found", "times"]) (ps := ["one", "other"]) (k := 0) T.F__law_common sc__law_common rfl fun cdv A outer s H E C hK hcl hr bd => by
    subst hcl
    have nd := sc__law_common.nd
    have hu64 := hr.units
    have hu65 : (A.deeper (envOfC "_law_common" (defScope s__law_common) s.heap.objs.size T.a__law_common cdv)).units + 65 < cLine := by have := hr.un; omega
    exact (dss_cons (ds_set (i := 2) nd rfl (Or.inl rfl) (dv_var 0))
      (dss_cons (ds_for bd.own bd.calm (di_rangeW1 rfl T.z_range (da_cons (dv_var 1) da_nil)) (dg_name (i := 3) nd rfl (Or.inl rfl))
      (dss_cons (ds_if (dt_cmp (op_eqD hu64) (d_eq hK.symm) (dv_op op_modN d_mod (dv_var 2) (dv_var 1)) dv_int (by rfl))
      (dss_cons (ds_ret (dv_var 2))
      dss_nil)
      dss_nil)
      (dss_cons (ds_set (i := 2) nd rfl (Or.inl rfl) (dv_op op_addA (d_add hK.symm) (dv_var 2) (dv_var 0)))
      dss_nil)))
      (dss_cons (ds_ret (dv_var 2))
      dss_nil)))
theorem sc__law_degree : FnScope ["cells", "banks_here", "counts", "cell_here", "bank"] ["cells", "banks_here"] (defScope s__law_degree) := ⟨rfl, rfl, rfl, by decide +kernel, rfl, by decide +kernel, by decide +kernel⟩
theorem ok__law_degree (T : Txt P w K mg cl) : FnP P w K mg base cl 1 T.a__law_degree T.fd__law_degree ["cells", "banks_here"] m__law_degree :=
  fnp (N := ["cells", "banks_here", "counts", "cell_here", "bank"]) (ps := ["cells", "banks_here"]) (k := 0) T.F__law_degree sc__law_degree rfl fun cdv A outer s H E C hK hcl hr bd => by
    subst hcl
    have nd := sc__law_degree.nd
    have hu64 := hr.units
    have hu65 : (A.deeper (envOfC "_law_degree" (defScope s__law_degree) s.heap.objs.size T.a__law_degree cdv)).units + 65 < cLine := by have := hr.un; omega
    exact (dss_cons (ds_setO (i := 2) nd rfl (Or.inr rfl) do_dctN)
      (dss_cons (ds_for bd.own bd.calm (di_any hK.symm (dv_frz (do_sortSet hK.symm bd.calm (dv_var 0) rfl T.z_sorted rfl T.z_set))) (dg_name (i := 3) nd rfl (Or.inl rfl))
      (dss_cons (ds_putD 2 (Nat.lt_of_le_of_lt (Nat.add_le_add_left (show (1 : Nat) ≤ 65 by decide) _) hu65) (dv_op op_modN d_mod (dv_var 3) (dv_var 1)) (dv_op op_addA (d_add hK.symm) (dv_getD 2 (Nat.lt_of_le_of_lt (Nat.add_le_add_left (show (1 : Nat) ≤ 65 by decide) _) hu65) (dv_op op_modN d_mod (dv_var 3) (dv_var 1)) dv_int) dv_int))
      dss_nil))
      (dss_cons (ds_ret (dv_callB (cr_max bd.calm) (c_max1 hK.symm) rfl T.z_max (by decide +kernel) (da_cons (dv_op op_addA (d_add hK.symm) (dv_frz (do_lst (da_cons dv_int da_nil))) (dv_compD 2 (do_lc (own := [("bank", 4)]) bd.calm nd (blkOk_by (N := ["cells", "banks_here", "counts", "cell_here", "bank"]) (sc := defScope s__law_degree) (by decide +kernel)) (di_dcv (dv_var 2)) (fun _ _ _ _ _ => by exact (dg_name (i := 4) nd rfl (by first | exact Or.inl rfl | exact Or.inr rfl) (hv := by rfl))) (fun _ _ _ _ _ => by exact dts_nil) (fun _ _ _ _ _ => by exact (dv_ixD (Nat.lt_of_le_of_lt (Nat.add_le_add_left (show (1 : Nat) ≤ 65 by decide) _) (by exact hu65)) (dv_var 2) (dv_var 4) (fun _ _ => rfl)))))) da_nil)))
      dss_nil)))
theorem sc__law_own : FnScope ["guard", "low", "high", "by", "rest", "lane"] ["guard"] (defScope s__law_own) := ⟨rfl, rfl, rfl, by decide +kernel, rfl, by decide +kernel, by decide +kernel⟩
theorem ok__law_own (T : Txt P w K mg cl) : FnP P w K mg base cl 1 T.a__law_own T.fd__law_own ["guard"] m__law_own :=
  fnp (N := ["guard", "low", "high", "by", "rest", "lane"]) (ps := ["guard"]) (k := 0) T.F__law_own sc__law_own rfl fun cdv A outer s H E C hK hcl hr bd => by
    subst hcl
    have nd := sc__law_own.nd
    have hu64 := hr.units
    have hu65 : (A.deeper (envOfC "_law_own" (defScope s__law_own) s.heap.objs.size T.a__law_own cdv)).units + 65 < cLine := by have := hr.un; omega
    exact (dss_cons (ds_asg (dv_var 0) (dg_tup (n := 4) hK.symm bd.calm (dgs_cons (dg_name (i := 1) nd rfl (Or.inl rfl)) (dgs_cons (dg_name (i := 2) nd rfl (Or.inl rfl)) (dgs_cons (dg_name (i := 3) nd rfl (Or.inr rfl)) (dgs_cons (dg_name (i := 4) nd rfl (Or.inr rfl)) dgs_nil))))))
      (dss_cons (ds_ret (dv_frz (do_lc (own := [("lane", 5)]) bd.calm nd (blkOk_by (N := ["guard", "low", "high", "by", "rest", "lane"]) (sc := defScope s__law_own) (by decide +kernel)) (di_rangeW2 rfl T.z_range (da_cons (dv_var 1) (da_cons (dv_var 2) da_nil))) (fun _ _ _ _ _ => by exact (dg_name (i := 5) nd rfl (by first | exact Or.inl rfl | exact Or.inr rfl) (hv := by rfl))) (fun _ _ _ _ _ => by exact (dts_one (dt_cmp (op_eqD (by exact hu64)) (d_eq hK.symm) (dv_op op_modN d_mod (dv_var 5) (dv_var 3)) (dv_var 4) (by rfl)))) (fun _ _ _ _ _ => by exact (dv_var 5)))))
      dss_nil))
theorem sc__law_stretch : FnScope ["guard", "a", "b", "span", "far", "banks_here", "by_wave", "lane", "lines_here", "degrees", "spot", "cell_here"] ["guard", "a", "b", "span", "far", "banks_here"] (defScope s__law_stretch) := ⟨rfl, rfl, rfl, by decide +kernel, rfl, by decide +kernel, by decide +kernel⟩
theorem ok__law_stretch (T : Txt P w K mg cl) : FnP P w K mg base cl 2 T.a__law_stretch T.fd__law_stretch ["guard", "a", "b", "span", "far", "banks_here"] m__law_stretch :=
  fnp (N := ["guard", "a", "b", "span", "far", "banks_here", "by_wave", "lane", "lines_here", "degrees", "spot", "cell_here"]) (ps := ["guard", "a", "b", "span", "far", "banks_here"]) (k := 1) T.F__law_stretch sc__law_stretch rfl fun cdv A outer s H E C hK hcl hr bd => by
    subst hcl
    have nd := sc__law_stretch.nd
    have hu64 := hr.units
    have hu65 : (A.deeper (envOfC "_law_stretch" (defScope s__law_stretch) s.heap.objs.size T.a__law_stretch cdv)).units + 65 < cLine := by have := hr.un; omega
    exact (dss_cons (ds_setO (i := 6) nd rfl (Or.inr rfl) do_dctN)
      (dss_cons (ds_for bd.own bd.calm (di_any hK.symm (dv_call (ok__law_own T) (L2.Room.mono (j := 1) hr (by decide)) bd.gu bd.tk hK.symm T.mg__law_own T.F__law_own.kp T.b__law_own (dl_pv (dv_var 0) dl_nil))) (dg_name (i := 7) nd rfl (Or.inl rfl))
      (dss_cons (ds_putD 6 (Nat.lt_of_le_of_lt (Nat.add_le_add_left (show (1 : Nat) ≤ 65 by decide) _) hu65) (dv_op op_fdivA d_fdiv (dv_var 7) (dv_var 3)) (dv_op op_addA (d_add hK.symm) (dv_getD 6 (Nat.lt_of_le_of_lt (Nat.add_le_add_left (show (1 : Nat) ≤ 65 by decide) _) hu65) (dv_op op_fdivA d_fdiv (dv_var 7) (dv_var 3)) (dv_frz (do_lst da_nil))) (dv_frz (do_lst (da_cons (dv_op op_addA (d_add hK.symm) (dv_op op_mulA d_mul (dv_var 1) (dv_var 7)) (dv_var 2)) da_nil)))))
      dss_nil))
      (dss_cons (ds_set (i := 8) nd rfl (Or.inl rfl) (dv_callB (PLS.cr_sum2 bd.calm) (c_sum hK.symm) rfl T.z_sum (by decide +kernel) (da_cons (dv_compD 6 (do_lc (own := [("spot", 10)]) bd.calm nd (blkOk_by (N := ["guard", "a", "b", "span", "far", "banks_here", "by_wave", "lane", "lines_here", "degrees", "spot", "cell_here"]) (sc := defScope s__law_stretch) (by decide +kernel)) (di_dcv (dv_var 6)) (fun _ _ _ _ _ => by exact (dg_name (i := 10) nd rfl (by first | exact Or.inl rfl | exact Or.inr rfl) (hv := by rfl))) (fun _ _ _ _ _ => by exact dts_nil) (fun _ _ _ _ _ => by exact (dv_lenSet hK.symm (by exact bd.calm) (dv_frz (do_lc (own := [("cell_here", 11)]) (by exact bd.calm) nd (blkOk_by (by rfl)) (di_any hK.symm (dv_ixD (Nat.lt_of_le_of_lt (Nat.add_le_add_left (show (1 : Nat) ≤ 65 by decide) _) (by exact hu65)) (dv_var 6) (dv_var 10) (fun _ _ => rfl))) (fun _ _ _ _ _ => by exact (dg_name (i := 11) nd rfl (by first | exact Or.inl rfl | exact Or.inr rfl) (hv := by rfl))) (fun _ _ _ _ _ => by exact dts_nil) (fun _ _ _ _ _ => by exact (dv_op op_fdivA d_fdiv (dv_var 11) (dv_var 4))))) rfl T.z_len rfl T.z_set)))) da_nil)))
      (dss_cons (ds_compD 6 (j := 9) (own := [("spot", 10)]) bd.calm nd rfl rfl (sw_true rfl rfl rfl (by decide +kernel)) (blkOk_by (N := ["guard", "a", "b", "span", "far", "banks_here", "by_wave", "lane", "lines_here", "degrees", "spot", "cell_here"]) (sc := defScope s__law_stretch) (by decide +kernel)) (di_dcv (dv_var 6)) (fun _ _ _ _ _ => by exact (dg_name (i := 10) nd rfl (by first | exact Or.inl rfl | exact Or.inr rfl) (hv := by rfl))) (fun _ _ _ _ _ => by exact dts_nil) (fun _ _ _ _ _ => by exact (dv_call (ok__law_degree T) (by exact (L2.Room.mono (j := 1) hr (by decide))) (by exact bd.gu) takes0 hK.symm T.mg__law_degree T.F__law_degree.kp T.b__law_degree (dl_pv (dv_ixD (Nat.lt_of_le_of_lt (Nat.add_le_add_left (show (1 : Nat) ≤ 65 by decide) _) (by exact hu65)) (dv_var 6) (dv_var 10) (fun _ _ => rfl)) (dl_pv (dv_var 5) dl_nil)))))
      (dss_cons (ds_ret (dv_frz (do_lst (da_cons (dv_callB call_len (c_len hK.symm) rfl T.z_len (by decide +kernel) (da_cons (dv_var 9) da_nil)) (da_cons (dv_var 8) (da_cons (dv_callB (PLS.cr_sum2 bd.calm) (c_sum hK.symm) rfl T.z_sum (by decide +kernel) (da_cons (dv_var 9) da_nil)) (da_cons (dv_callB (cr_max bd.calm) (c_max1 hK.symm) rfl T.z_max (by decide +kernel) (da_cons (dv_op op_addA (d_add hK.symm) (dv_frz (do_lst (da_cons dv_int da_nil))) (dv_var 9)) da_nil)) da_nil)))))))
      dss_nil)))))
theorem sc__law_far : FnScope ["guard", "a", "b", "span", "far", "banks_here", "low", "high", "by", "rest", "period", "begin", "many", "left", "parts", "found", "first", "last", "times", "told", "part", "spot"] ["guard", "a", "b", "span", "far", "banks_here"] (defScope s__law_far) := ⟨rfl, rfl, rfl, by decide +kernel, rfl, by decide +kernel, by decide +kernel⟩
theorem ok__law_far (T : Txt P w K mg cl) : FnP P w K mg base cl 3 T.a__law_far T.fd__law_far ["guard", "a", "b", "span", "far", "banks_here"] m__law_far :=
  fnp (N := ["guard", "a", "b", "span", "far", "banks_here", "low", "high", "by", "rest", "period", "begin", "many", "left", "parts", "found", "first", "last", "times", "told", "part", "spot"]) (ps := ["guard", "a", "b", "span", "far", "banks_here"]) (k := 2) T.F__law_far sc__law_far rfl fun cdv A outer s H E C hK hcl hr bd => by
    subst hcl
    have nd := sc__law_far.nd
    have hu64 := hr.units
    have hu65 : (A.deeper (envOfC "_law_far" (defScope s__law_far) s.heap.objs.size T.a__law_far cdv)).units + 65 < cLine := by have := hr.un; omega
    exact (dss_cons (ds_asg (dv_var 0) (dg_tup (n := 4) hK.symm bd.calm (dgs_cons (dg_name (i := 6) nd rfl (Or.inl rfl)) (dgs_cons (dg_name (i := 7) nd rfl (Or.inl rfl)) (dgs_cons (dg_name (i := 8) nd rfl (Or.inl rfl)) (dgs_cons (dg_name (i := 9) nd rfl (Or.inl rfl)) dgs_nil))))))
      (dss_cons (ds_set (i := 10) nd rfl (Or.inl rfl) (dv_call (ok__law_common T) (L2.Room.mono (j := 1) hr (by decide)) bd.gu bd.tk hK.symm T.mg__law_common T.F__law_common.kp T.b__law_common (dl_pv (dv_call (ok__law_common T) (L2.Room.mono (j := 1) hr (by decide)) bd.gu bd.tk hK.symm T.mg__law_common T.F__law_common.kp T.b__law_common (dl_pv (dv_var 3) (dl_pv (dv_var 8) dl_nil))) (dl_pv (dv_call (ok__law_common T) (L2.Room.mono (j := 1) hr (by decide)) bd.gu bd.tk hK.symm T.mg__law_common T.F__law_common.kp T.b__law_common (dl_pv (dv_var 4) (dl_pv (dv_var 5) dl_nil))) dl_nil))))
      (dss_cons (ds_set (i := 11) nd rfl (Or.inl rfl) (dv_callB (call_min2 bd.calm) c_min2 rfl T.z_min (by decide +kernel) (da_cons (dv_var 7) (da_cons (dv_op op_mulA d_mul (dv_op op_fdivA d_fdiv (dv_op op_sub d_sub (dv_op op_addA (d_add hK.symm) (dv_var 6) (dv_var 3)) dv_int) (dv_var 3)) (dv_var 3)) da_nil))))
      (dss_cons (ds_par (i := 12) (j := 13) bd.calm nd rfl rfl (by decide) rfl rfl (da_cons (dv_op op_fdivA d_fdiv (dv_op op_sub d_sub (dv_var 7) (dv_var 11)) (dv_var 10)) (da_cons (dv_op op_modN d_mod (dv_op op_sub d_sub (dv_var 7) (dv_var 11)) (dv_var 10)) da_nil)) rfl)
      (dss_cons (ds_set (i := 14) nd rfl (Or.inl rfl) (dv_frz (do_lst (da_cons (dv_tup (da_cons (dv_var 6) (da_cons (dv_var 11) (da_cons dv_int da_nil)))) (da_cons (dv_tup (da_cons (dv_var 11) (da_cons (dv_op op_addA (d_add hK.symm) (dv_var 11) (dv_var 10)) (da_cons (dv_var 12) da_nil)))) (da_cons (dv_tup (da_cons (dv_var 11) (da_cons (dv_op op_addA (d_add hK.symm) (dv_var 11) (dv_var 13)) (da_cons dv_int da_nil)))) da_nil))))))
      (dss_cons (ds_set (i := 15) nd rfl (Or.inr rfl) (dv_frz (do_lst (da_cons dv_int (da_cons dv_int (da_cons dv_int (da_cons dv_int da_nil)))))))
      (dss_cons (ds_for bd.own bd.calm (di_any hK.symm (dv_var 14)) (dg_tup (n := 3) hK.symm bd.calm (dgs_cons (dg_name (i := 16) nd rfl (Or.inl rfl)) (dgs_cons (dg_name (i := 17) nd rfl (Or.inl rfl)) (dgs_cons (dg_name (i := 18) nd rfl (Or.inr rfl)) dgs_nil))))
      (dss_cons (ds_asg (dv_tup (da_cons (dv_frz (do_lst (da_cons dv_int (da_cons dv_int (da_cons dv_int (da_cons dv_int da_nil)))))) (da_cons (dv_tup (da_cons (dv_var 16) (da_cons (dv_var 17) (da_cons (dv_var 8) (da_cons (dv_var 9) da_nil))))) da_nil))) (dg_tup (n := 2) hK.symm bd.calm (dgs_cons (dg_name (i := 19) nd rfl (Or.inr rfl)) (dgs_cons (dg_name (i := 20) nd rfl (Or.inl rfl)) dgs_nil))))
      (dss_cons (ds_if (dt_cmp op_gt d_gt (dv_var 18) dv_int (by rfl))
      (dss_cons (ds_set (i := 19) nd rfl (Or.inr rfl) (dv_call (ok__law_stretch T) (L2.Room.mono (j := 2) hr (by decide)) bd.gu bd.tk hK.symm T.mg__law_stretch T.F__law_stretch.kp T.b__law_stretch (dl_pv (dv_var 20) (dl_pv (dv_var 1) (dl_pv (dv_var 2) (dl_pv (dv_var 3) (dl_pv (dv_var 4) (dl_pv (dv_var 5) dl_nil))))))))
      dss_nil)
      dss_nil)
      (dss_cons (ds_set (i := 15) nd rfl (Or.inr rfl) (dv_op op_addA (d_add hK.symm) (dv_frz (do_lc (own := [("spot", 21)]) bd.calm nd (blkOk_by (N := ["guard", "a", "b", "span", "far", "banks_here", "low", "high", "by", "rest", "period", "begin", "many", "left", "parts", "found", "first", "last", "times", "told", "part", "spot"]) (sc := defScope s__law_far) (by decide +kernel)) (di_rangeW1 rfl T.z_range (da_cons dv_int da_nil)) (fun _ _ _ _ _ => by exact (dg_name (i := 21) nd rfl (by first | exact Or.inl rfl | exact Or.inr rfl) (hv := by rfl))) (fun _ _ _ _ _ => by exact dts_nil) (fun _ _ _ _ _ => by exact (dv_op op_addA (d_add hK.symm) (dv_ix hK.symm (dv_var 15) (dv_var 21) (fun _ _ => rfl)) (dv_op op_mulA d_mul (dv_var 18) (dv_ix hK.symm (dv_var 19) (dv_var 21) (fun _ _ => rfl))))))) (dv_frz (do_lst (da_cons (dv_callB (call_max2 bd.calm) c_max2 rfl T.z_max (by decide +kernel) (da_cons (dv_ix hK.symm (dv_var 15) dv_int (fun _ _ => rfl)) (da_cons (dv_ix hK.symm (dv_var 19) dv_int (fun _ _ => rfl)) da_nil))) da_nil)))))
      dss_nil))))
      (dss_cons (ds_ret (dv_var 15))
      dss_nil))))))))
theorem sc__law_far_guard : FnScope ["pool", "great", "total", "low", "high", "by"] ["pool"] (defScope s__law_far_guard) := ⟨rfl, rfl, rfl, by decide +kernel, rfl, by decide +kernel, by decide +kernel⟩
theorem ok__law_far_guard (T : Txt P w K mg cl) : FnP P w K mg base cl 2 T.a__law_far_guard T.fd__law_far_guard ["pool"] m__law_far_guard :=
  fnp (N := ["pool", "great", "total", "low", "high", "by"]) (ps := ["pool"]) (k := 1) T.F__law_far_guard sc__law_far_guard rfl fun cdv A outer s H E C hK hcl hr bd => by
    subst hcl
    have nd := sc__law_far_guard.nd
    have hu64 := hr.units
    have hu65 : (A.deeper (envOfC "_law_far_guard" (defScope s__law_far_guard) s.heap.objs.size T.a__law_far_guard cdv)).units + 65 < cLine := by have := hr.un; omega
    exact (dss_cons (ds_set (i := 1) nd rfl (Or.inl rfl) (dv_ix hK.symm (dv_frz (do_lst (da_cons (dv_op op_powA d_pow dv_int dv_int) (da_cons (dv_op op_powA d_pow dv_int dv_int) (da_cons (dv_op op_powA d_pow dv_int dv_int) (da_cons (dv_op op_powA d_pow dv_int dv_int) (da_cons (dv_op op_powA d_pow dv_int dv_int) da_nil))))))) (dv_call (ok__law_draw T) (L2.Room.mono (j := 1) hr (by decide)) bd.gu bd.tk hK.symm T.mg__law_draw T.F__law_draw.kp T.b__law_draw (dl_sl 0 (dl_pv dv_int dl_nil))) (fun _ _ => rfl)))
      (dss_cons (ds_set (i := 2) nd rfl (Or.inl rfl) (dv_op op_sub d_sub (dv_var 1) (dv_call (ok__law_draw T) (L2.Room.mono (j := 1) hr (by decide)) bd.gu bd.tk hK.symm T.mg__law_draw T.F__law_draw.kp T.b__law_draw (dl_sl 0 (dl_pv (dv_op op_powA d_pow dv_int dv_int) dl_nil)))))
      (dss_cons (ds_set (i := 3) nd rfl (Or.inl rfl) (dv_ix hK.symm (dv_frz (do_lst (da_cons dv_int (da_cons (dv_call (ok__law_draw T) (L2.Room.mono (j := 1) hr (by decide)) bd.gu bd.tk hK.symm T.mg__law_draw T.F__law_draw.kp T.b__law_draw (dl_sl 0 (dl_pv dv_int dl_nil))) (da_cons (dv_call (ok__law_draw T) (L2.Room.mono (j := 1) hr (by decide)) bd.gu bd.tk hK.symm T.mg__law_draw T.F__law_draw.kp T.b__law_draw (dl_sl 0 (dl_pv (dv_var 2) dl_nil))) da_nil))))) (dv_call (ok__law_draw T) (L2.Room.mono (j := 1) hr (by decide)) bd.gu bd.tk hK.symm T.mg__law_draw T.F__law_draw.kp T.b__law_draw (dl_sl 0 (dl_pv dv_int dl_nil))) (fun _ _ => rfl)))
      (dss_cons (ds_set (i := 4) nd rfl (Or.inl rfl) (dv_ix hK.symm (dv_frz (do_lst (da_cons (dv_var 2) (da_cons (dv_op op_addA (d_add hK.symm) (dv_var 3) (dv_call (ok__law_draw T) (L2.Room.mono (j := 1) hr (by decide)) bd.gu bd.tk hK.symm T.mg__law_draw T.F__law_draw.kp T.b__law_draw (dl_sl 0 (dl_pv (dv_op op_addA (d_add hK.symm) (dv_op op_sub d_sub (dv_var 2) (dv_var 3)) dv_int) dl_nil)))) da_nil)))) (dv_call (ok__law_draw T) (L2.Room.mono (j := 1) hr (by decide)) bd.gu bd.tk hK.symm T.mg__law_draw T.F__law_draw.kp T.b__law_draw (dl_sl 0 (dl_pv dv_int dl_nil))) (fun _ _ => rfl)))
      (dss_cons (ds_set (i := 5) nd rfl (Or.inl rfl) (dv_ix hK.symm (dv_frz (do_lst (da_cons dv_int (da_cons dv_int (da_cons dv_int (da_cons dv_int (da_cons dv_int (da_cons dv_int (da_cons (dv_op op_addA (d_add hK.symm) dv_int (dv_call (ok__law_draw T) (L2.Room.mono (j := 1) hr (by decide)) bd.gu bd.tk hK.symm T.mg__law_draw T.F__law_draw.kp T.b__law_draw (dl_sl 0 (dl_pv dv_int dl_nil)))) da_nil))))))))) (dv_call (ok__law_draw T) (L2.Room.mono (j := 1) hr (by decide)) bd.gu bd.tk hK.symm T.mg__law_draw T.F__law_draw.kp T.b__law_draw (dl_sl 0 (dl_pv dv_int dl_nil))) (fun _ _ => rfl)))
      (dss_cons (ds_ret (dv_tup (da_cons (dv_tup (da_cons (dv_var 3) (da_cons (dv_var 4) (da_cons (dv_var 5) (da_cons (dv_call (ok__law_draw T) (L2.Room.mono (j := 1) hr (by decide)) bd.gu bd.tk hK.symm T.mg__law_draw T.F__law_draw.kp T.b__law_draw (dl_sl 0 (dl_pv (dv_var 5) dl_nil))) da_nil))))) (da_cons (dv_var 2) da_nil))))
      dss_nil))))))
theorem sc__law_pair : FnScope ["pool", "most"] ["pool", "most"] (defScope s__law_pair) := ⟨rfl, rfl, rfl, by decide +kernel, rfl, by decide +kernel, by decide +kernel⟩
theorem ok__law_pair (T : Txt P w K mg cl) : FnP P w K mg base cl 2 T.a__law_pair T.fd__law_pair ["pool", "most"] m__law_pair :=
  fnp (N := ["pool", "most"]) (ps := ["pool", "most"]) (k := 1) T.F__law_pair sc__law_pair rfl fun cdv A outer s H E C hK hcl hr bd => by
    subst hcl
    have nd := sc__law_pair.nd
    have hu64 := hr.units
    have hu65 : (A.deeper (envOfC "_law_pair" (defScope s__law_pair) s.heap.objs.size T.a__law_pair cdv)).units + 65 < cLine := by have := hr.un; omega
    exact (dss_cons (ds_ret (dv_tup (da_cons (dv_ix hK.symm (dv_frz (do_lst (da_cons dv_int (da_cons dv_int (da_cons (dv_un un_neg d_neg dv_int) (da_cons dv_int (da_cons dv_int (da_cons (dv_un un_neg d_neg dv_int) (da_cons dv_int (da_cons (dv_un un_neg d_neg dv_int) da_nil)))))))))) (dv_call (ok__law_draw T) (L2.Room.mono (j := 1) hr (by decide)) bd.gu bd.tk hK.symm T.mg__law_draw T.F__law_draw.kp T.b__law_draw (dl_sl 0 (dl_pv dv_int dl_nil))) (fun _ _ => rfl)) (da_cons (dv_op op_sub d_sub (dv_call (ok__law_draw T) (L2.Room.mono (j := 1) hr (by decide)) bd.gu bd.tk hK.symm T.mg__law_draw T.F__law_draw.kp T.b__law_draw (dl_sl 0 (dl_pv (dv_op op_addA (d_add hK.symm) (dv_op op_mulA d_mul dv_int (dv_var 1)) dv_int) dl_nil))) (dv_var 1)) da_nil))))
      dss_nil)
theorem sc_check_barriers : FnScope ["barriers", "size", "before", "number", "barrier"] ["barriers", "size"] (defScope s_check_barriers) := ⟨rfl, rfl, rfl, by decide +kernel, rfl, by decide +kernel, by decide +kernel⟩
theorem ok_check_barriers (T : Txt P w K mg cl) : FnP P w K mg base cl 1 T.a_check_barriers T.fd_check_barriers ["barriers", "size"] PM.m_check_barriers :=
  fnp (N := ["barriers", "size", "before", "number", "barrier"]) (ps := ["barriers", "size"]) (k := 0) T.F_check_barriers sc_check_barriers rfl fun cdv A outer s H E C hK hcl hr bd => by
    subst hcl
    have nd := sc_check_barriers.nd
    have hu64 := hr.units
    have hu65 : (A.deeper (envOfC "check_barriers" (defScope s_check_barriers) s.heap.objs.size T.a_check_barriers cdv)).units + 65 < cLine := by have := hr.un; omega
    exact (dss_cons (ds_set (i := 2) nd rfl (Or.inl rfl) dv_int)
      (dss_cons (ds_for bd.own bd.calm (di_enumQ hK.symm rfl T.z_enumerate (da_cons (dv_var 0) da_nil)) (dg_tup (n := 2) hK.symm bd.calm (dgs_cons (dg_name (i := 3) nd rfl (Or.inl rfl)) (dgs_cons (dg_name (i := 4) nd rfl (Or.inl rfl)) dgs_nil)))
      (dss_cons (ds_if (dt_not (dt_chain op_lt op_lt d_lt d_lt (dv_var 2) (dv_var 4) (dv_var 1)))
      (dss_cons ds_never
      dss_nil)
      dss_nil)
      (dss_cons (ds_set (i := 2) nd rfl (Or.inl rfl) (dv_var 4))
      dss_nil)))
      dss_nil))
theorem sc_is_array : FnScope ["name", "letter"] ["name"] (defScope s_is_array) := ⟨rfl, rfl, rfl, by decide +kernel, rfl, by decide +kernel, by decide +kernel⟩
theorem ok_is_array (T : Txt P w K mg cl) : FnP P w K mg base cl 1 T.a_is_array T.fd_is_array ["name"] PM.m_is_array :=
  fnp (N := ["name", "letter"]) (ps := ["name"]) (k := 0) T.F_is_array sc_is_array rfl fun cdv A outer s H E C hK hcl hr bd => by
    subst hcl
    have nd := sc_is_array.nd
    have hu64 := hr.units
    have hu65 : (A.deeper (envOfC "is_array" (defScope s_is_array) s.heap.objs.size T.a_is_array cdv)).units + 65 < cLine := by have := hr.un; omega
    exact (dss_cons (ds_ret (dv_and hK.symm (dv_chain op_le op_le d_le d_le dv_int (dv_callB call_len (c_len hK.symm) rfl T.z_len (by decide +kernel) (da_cons (dv_var 0) da_nil)) (dv_gint rfl T.n_MOST_LETTERS)) (dv_one (dv_callB (cr_all bd.calm) (c_all hK.symm) rfl T.z_all (by decide +kernel) (da_cons (dv_frz (do_lc (own := [("letter", 1)]) bd.calm nd (blkOk_by (N := ["name", "letter"]) (sc := defScope s_is_array) (by decide +kernel)) (di_txt (dv_var 0)) (fun _ _ _ _ _ => by exact (dg_name (i := 1) nd rfl (by first | exact Or.inl rfl | exact Or.inr rfl) (hv := by rfl))) (fun _ _ _ _ _ => by exact dts_nil) (fun _ _ _ _ _ => by exact (dv_cmp op_in_sign d_inSg (dv_var 1) (dv_gstr rfl T.n_LETTERS) (by rfl))))) da_nil)))))
      dss_nil)
theorem sc_is_guard : FnScope ["guard", "low", "high", "step", "rest"] ["guard"] (defScope s_is_guard) := ⟨rfl, rfl, rfl, by decide +kernel, rfl, by decide +kernel, by decide +kernel⟩
theorem ok_is_guard (T : Txt P w K mg cl) : FnP P w K mg base cl 1 T.a_is_guard T.fd_is_guard ["guard"] PM.m_is_guard :=
  fnp (N := ["guard", "low", "high", "step", "rest"]) (ps := ["guard"]) (k := 0) T.F_is_guard sc_is_guard rfl fun cdv A outer s H E C hK hcl hr bd => by
    subst hcl
    have nd := sc_is_guard.nd
    have hu64 := hr.units
    have hu65 : (A.deeper (envOfC "is_guard" (defScope s_is_guard) s.heap.objs.size T.a_is_guard cdv)).units + 65 < cLine := by have := hr.un; omega
    exact (dss_cons (ds_asg (dv_var 0) (dg_tup (n := 4) hK.symm bd.calm (dgs_cons (dg_name (i := 1) nd rfl (Or.inl rfl)) (dgs_cons (dg_name (i := 2) nd rfl (Or.inl rfl)) (dgs_cons (dg_name (i := 3) nd rfl (Or.inl rfl)) (dgs_cons (dg_name (i := 4) nd rfl (Or.inl rfl)) dgs_nil))))))
      (dss_cons (ds_ret (dv_and hK.symm (dv_chain op_le op_le d_le d_le dv_int (dv_var 1) (dv_var 2)) (dv_one (dv_chain op_le op_lt d_le d_lt dv_int (dv_var 4) (dv_var 3)))))
      dss_nil))
theorem sc_is_statement : FnScope ["statement", "lanes", "place"] ["statement", "lanes"] (defScope s_is_statement) := ⟨rfl, rfl, rfl, by decide +kernel, rfl, by decide +kernel, by decide +kernel⟩
theorem ok_is_statement (T : Txt P w K mg cl) : FnP P w K mg base cl 2 T.a_is_statement T.fd_is_statement ["statement", "lanes"] PM.m_is_statement :=
  fnp (N := ["statement", "lanes", "place"]) (ps := ["statement", "lanes"]) (k := 1) T.F_is_statement sc_is_statement rfl fun cdv A outer s H E C hK hcl hr bd => by
    subst hcl
    have nd := sc_is_statement.nd
    have hu64 := hr.units
    have hu65 : (A.deeper (envOfC "is_statement" (defScope s_is_statement) s.heap.objs.size T.a_is_statement cdv)).units + 65 < cLine := by have := hr.un; omega
    exact (dss_cons (ds_if (dt_cmp (op_neD hu64) (d_ne hK.symm) (dv_dget hK.symm T.d_ITEMS (dv_ix hK.symm (dv_var 0) dv_int (fun _ _ => rfl)) ⟨rfl, rfl, rfl, rfl⟩) (dv_callB call_len (c_len hK.symm) rfl T.z_len (by decide +kernel) (da_cons (dv_var 0) da_nil)) (by rfl))
      (dss_cons (ds_ret dv_bl)
      dss_nil)
      dss_nil)
      (dss_cons (ds_if (dt_not (dt_tru hK.symm (dv_callB (cr_all bd.calm) (c_all hK.symm) rfl T.z_all (by decide +kernel) (da_cons (dv_frz (do_lc (own := [("place", 2)]) bd.calm nd (blkOk_by (N := ["statement", "lanes", "place"]) (sc := defScope s_is_statement) (by decide +kernel)) (di_any hK.symm (dv_dct hK.symm T.d_PLACES (dv_ix hK.symm (dv_var 0) dv_int (fun _ _ => rfl)) (fun _ _ => rfl))) (fun _ _ _ _ _ => by exact (dg_name (i := 2) nd rfl (by first | exact Or.inl rfl | exact Or.inr rfl) (hv := by rfl))) (fun _ _ _ _ _ => by exact dts_nil) (fun _ _ _ _ _ => by exact (dv_call (ok_is_array T) (by exact (L2.Room.mono (j := 1) hr (by decide))) (by exact bd.gu) takes0 hK.symm T.mg_is_array T.F_is_array.kp T.b_is_array (dl_pv (dv_ix hK.symm (dv_var 0) (dv_var 2) (fun _ _ => rfl)) dl_nil))))) da_nil))))
      (dss_cons (ds_ret dv_bl)
      dss_nil)
      dss_nil)
      (dss_cons (ds_ret (dv_and hK.symm (dv_call (ok_is_guard T) (L2.Room.mono (j := 1) hr (by decide)) bd.gu bd.tk hK.symm T.mg_is_guard T.F_is_guard.kp T.b_is_guard (dl_pv (dv_ix hK.symm (dv_var 0) dv_int (fun _ _ => rfl)) dl_nil)) (dv_one (dv_cmp op_le d_le (dv_ix hK.symm (dv_ix hK.symm (dv_var 0) dv_int (fun _ _ => rfl)) dv_int (fun _ _ => rfl)) (dv_var 1) (by rfl)))))
      dss_nil)))
theorem sc_Kernel___init__ : FnScope ["self", "lanes", "statements", "barriers", "number", "statement"] ["self", "lanes", "statements", "barriers"] (defScope s_Kernel___init__) := ⟨rfl, rfl, rfl, by decide +kernel, rfl, by decide +kernel, by decide +kernel⟩
theorem ok_Kernel___init__ (T : Txt P w K mg cl) : FnP P w K mg base cl 3 T.a_Kernel___init__ T.fd_Kernel___init__ ["self", "lanes", "statements", "barriers"] PM.m_Kernel___init__ :=
  fnpX (N := ["self", "lanes", "statements", "barriers", "number", "statement"]) (ps := ["self", "lanes", "statements", "barriers"]) (k := 2) T.F_Kernel___init__ sc_Kernel___init__ rfl fun cdv A outer s H E C hK hcl hr bd => by
    subst hcl
    have nd := sc_Kernel___init__.nd
    have hu64 := hr.units
    have hu65 : (A.deeper (envOfC "Kernel.__init__" (defScope s_Kernel___init__) s.heap.objs.size T.a_Kernel___init__ cdv)).units + 65 < cLine := by have := hr.un; omega
    exact (dss_cons (ds_if (dt_cmp op_lt d_lt (dv_var 1) dv_int (by rfl))
      (dss_cons ds_never
      dss_nil)
      dss_nil)
      (dss_cons (ds_for bd.own bd.calm (di_enumQ hK.symm rfl T.z_enumerate (da_cons (dv_var 2) da_nil)) (dg_tup (n := 2) hK.symm bd.calm (dgs_cons (dg_name (i := 4) nd rfl (Or.inl rfl)) (dgs_cons (dg_name (i := 5) nd rfl (Or.inl rfl)) dgs_nil)))
      (dss_cons (ds_if (dt_not (dt_tru hK.symm (dv_call (ok_is_statement T) (L2.Room.mono (j := 2) hr (by decide)) bd.gu bd.tk hK.symm T.mg_is_statement T.F_is_statement.kp T.b_is_statement (dl_pv (dv_var 5) (dl_pv (dv_var 1) dl_nil)))))
      (dss_cons ds_never
      dss_nil)
      dss_nil)
      dss_nil))
      (dss_cons (ds_expr (dv_call (ok_check_barriers T) (L2.Room.mono (j := 1) hr (by decide)) bd.gu bd.tk hK.symm T.mg_check_barriers T.F_check_barriers.kp T.b_check_barriers (dl_pv (dv_var 3) (dl_pv (dv_callB call_len (c_len hK.symm) rfl T.z_len (by decide +kernel) (da_cons (dv_var 2) da_nil)) dl_nil))))
      (dss_cons (ds_setFld 0 "Kernel" "lane_count" (dv_var 1) T.k_Kernel T.na_Kernel_lane_count)
      (dss_cons (ds_setFld 0 "Kernel" "kept_statements" (dv_tupV hK.symm (dv_var 2) rfl T.z_tuple) T.k_Kernel T.na_Kernel_kept_statements)
      (dss_cons (ds_setFld 0 "Kernel" "kept_barriers" (dv_tupV hK.symm (dv_var 3) rfl T.z_tuple) T.k_Kernel T.na_Kernel_kept_barriers)
      dss_nil))))))
theorem sc_accesses_in : FnScope ["number", "statement", "places", "found", "place"] ["number", "statement"] (defScope s_accesses_in) := ⟨rfl, rfl, rfl, by decide +kernel, rfl, by decide +kernel, by decide +kernel⟩
theorem ok_accesses_in (T : Txt P w K mg cl) : FnP P w K mg base cl 1 T.a_accesses_in T.fd_accesses_in ["number", "statement"] PM.m_accesses_in :=
  fnp (N := ["number", "statement", "places", "found", "place"]) (ps := ["number", "statement"]) (k := 0) T.F_accesses_in sc_accesses_in rfl fun cdv A outer s H E C hK hcl hr bd => by
    subst hcl
    have nd := sc_accesses_in.nd
    have hu64 := hr.units
    have hu65 : (A.deeper (envOfC "accesses_in" (defScope s_accesses_in) s.heap.objs.size T.a_accesses_in cdv)).units + 65 < cLine := by have := hr.un; omega
    exact (dss_cons (ds_set (i := 2) nd rfl (Or.inl rfl) (dv_dct hK.symm T.d_PLACES (dv_ix hK.symm (dv_var 1) dv_int (fun _ _ => rfl)) (fun _ _ => rfl)))
      (dss_cons (ds_lcV (i := 3) (own := [("place", 4)]) bd.calm nd rfl rfl (sw_true rfl rfl rfl (by decide +kernel)) (blkOk_by (N := ["number", "statement", "places", "found", "place"]) (sc := defScope s_accesses_in) (by decide +kernel)) (di_any hK.symm (dv_sl hK.symm (dv_var 2) (dp_some dv_int) dp_none)) (fun _ _ _ _ _ => by exact (dg_name (i := 4) nd rfl (by first | exact Or.inl rfl | exact Or.inr rfl) (hv := by rfl))) (fun _ _ _ _ _ => by exact dts_nil) (fun _ _ _ _ _ => by exact (dv_tup (da_cons (dv_var 0) (da_cons (dv_gstr rfl T.n_READ) (da_star hK.symm (dv_sl hK.symm (dv_var 1) (dp_some (dv_var 4)) (dp_some (dv_op op_addA (d_add hK.symm) (dv_var 4) dv_int))) da_nil))))))
      (dss_cons (ds_ret (dv_frz (do_lst (da_star hK.symm (dv_var 3) (da_cons (dv_tup (da_cons (dv_var 0) (da_cons (dv_gstr rfl T.n_WRITE) (da_star hK.symm (dv_sl hK.symm (dv_var 1) (dp_some (dv_ix hK.symm (dv_var 2) dv_int (fun _ _ => rfl))) (dp_some (dv_op op_addA (d_add hK.symm) (dv_ix hK.symm (dv_var 2) dv_int (fun _ _ => rfl)) dv_int))) da_nil)))) da_nil)))))
      dss_nil)))
theorem sc_access_list : FnScope ["kernel", "found", "number", "statement"] ["kernel"] (defScope s_access_list) := ⟨rfl, rfl, rfl, by decide +kernel, rfl, by decide +kernel, by decide +kernel⟩
theorem ok_access_list (T : Txt P w K mg cl) : FnP P w K mg base cl 2 T.a_access_list T.fd_access_list ["kernel"] PM.m_access_list :=
  fnp (N := ["kernel", "found", "number", "statement"]) (ps := ["kernel"]) (k := 1) T.F_access_list sc_access_list rfl fun cdv A outer s H E C hK hcl hr bd => by
    subst hcl
    have nd := sc_access_list.nd
    have hu64 := hr.units
    have hu65 : (A.deeper (envOfC "access_list" (defScope s_access_list) s.heap.objs.size T.a_access_list cdv)).units + 65 < cLine := by have := hr.un; omega
    exact (dss_cons (ds_setO (i := 1) nd rfl (Or.inl rfl) (do_lst da_nil))
      (dss_cons (ds_for bd.own bd.calm (di_enumQ hK.symm rfl T.z_enumerate (da_cons (dv_fld "Kernel" "kept_statements" hK.symm (dv_var 0) T.k_Kernel T.na_Kernel_kept_statements) da_nil)) (dg_tup (n := 2) hK.symm bd.calm (dgs_cons (dg_name (i := 2) nd rfl (Or.inl rfl)) (dgs_cons (dg_name (i := 3) nd rfl (Or.inl rfl)) dgs_nil)))
      (dss_cons (ds_ext 1 (dv_call (ok_accesses_in T) (L2.Room.mono (j := 1) hr (by decide)) bd.gu bd.tk hK.symm T.mg_accesses_in T.F_accesses_in.kp T.b_accesses_in (dl_pv (dv_var 2) (dl_pv (dv_var 3) dl_nil))))
      dss_nil))
      (dss_cons (ds_ret (dv_frz (do_mv 1)))
      dss_nil)))
theorem sc_check_access : FnScope ["kernel", "number"] ["kernel", "number"] (defScope s_check_access) := ⟨rfl, rfl, rfl, by decide +kernel, rfl, by decide +kernel, by decide +kernel⟩
theorem ok_check_access (T : Txt P w K mg cl) : FnP P w K mg base cl 3 T.a_check_access T.fd_check_access ["kernel", "number"] PM.m_check_access :=
  fnp (N := ["kernel", "number"]) (ps := ["kernel", "number"]) (k := 2) T.F_check_access sc_check_access rfl fun cdv A outer s H E C hK hcl hr bd => by
    subst hcl
    have nd := sc_check_access.nd
    have hu64 := hr.units
    have hu65 : (A.deeper (envOfC "check_access" (defScope s_check_access) s.heap.objs.size T.a_check_access cdv)).units + 65 < cLine := by have := hr.un; omega
    exact (dss_cons (ds_if (dt_not (dt_chain op_le op_lt d_le d_lt dv_int (dv_var 1) (dv_callB call_len (c_len hK.symm) rfl T.z_len (by decide +kernel) (da_cons (dv_call (ok_access_list T) (L2.Room.mono (j := 2) hr (by decide)) bd.gu bd.tk hK.symm T.mg_access_list T.F_access_list.kp T.b_access_list (dl_pv (dv_var 0) dl_nil)) da_nil))))
      (dss_cons ds_never
      dss_nil)
      dss_nil)
      dss_nil)
theorem sc_check_banks : FnScope ["banks"] ["banks"] (defScope s_check_banks) := ⟨rfl, rfl, rfl, by decide +kernel, rfl, by decide +kernel, by decide +kernel⟩
theorem ok_check_banks (T : Txt P w K mg cl) : FnP P w K mg base cl 1 T.a_check_banks T.fd_check_banks ["banks"] PM.m_check_banks :=
  fnp (N := ["banks"]) (ps := ["banks"]) (k := 0) T.F_check_banks sc_check_banks rfl fun cdv A outer s H E C hK hcl hr bd => by
    subst hcl
    have nd := sc_check_banks.nd
    have hu64 := hr.units
    have hu65 : (A.deeper (envOfC "check_banks" (defScope s_check_banks) s.heap.objs.size T.a_check_banks cdv)).units + 65 < cLine := by have := hr.un; omega
    exact (dss_cons (ds_if (dt_not (dt_chain op_le op_le d_le d_le dv_int (dv_var 0) (dv_gint rfl T.n_MOST_BANKS)))
      (dss_cons ds_never
      dss_nil)
      dss_nil)
      dss_nil)
theorem sc_check_wave : FnScope ["wave"] ["wave"] (defScope s_check_wave) := ⟨rfl, rfl, rfl, by decide +kernel, rfl, by decide +kernel, by decide +kernel⟩
theorem ok_check_wave (T : Txt P w K mg cl) : FnP P w K mg base cl 1 T.a_check_wave T.fd_check_wave ["wave"] PM.m_check_wave :=
  fnp (N := ["wave"]) (ps := ["wave"]) (k := 0) T.F_check_wave sc_check_wave rfl fun cdv A outer s H E C hK hcl hr bd => by
    subst hcl
    have nd := sc_check_wave.nd
    have hu64 := hr.units
    have hu65 : (A.deeper (envOfC "check_wave" (defScope s_check_wave) s.heap.objs.size T.a_check_wave cdv)).units + 65 < cLine := by have := hr.un; omega
    exact (dss_cons (ds_if (dt_not (dt_chain op_le op_le d_le d_le dv_int (dv_var 0) (dv_gint rfl T.n_MOST_WAVE)))
      (dss_cons ds_never
      dss_nil)
      dss_nil)
      dss_nil)
theorem sc_are_lonely : FnScope ["guard", "wave"] ["guard", "wave"] (defScope s_are_lonely) := ⟨rfl, rfl, rfl, by decide +kernel, rfl, by decide +kernel, by decide +kernel⟩
theorem ok_are_lonely (T : Txt P w K mg cl) : FnP P w K mg base cl 1 T.a_are_lonely T.fd_are_lonely ["guard", "wave"] PM.m_are_lonely :=
  fnp (N := ["guard", "wave"]) (ps := ["guard", "wave"]) (k := 0) T.F_are_lonely sc_are_lonely rfl fun cdv A outer s H E C hK hcl hr bd => by
    subst hcl
    have nd := sc_are_lonely.nd
    have hu64 := hr.units
    have hu65 : (A.deeper (envOfC "are_lonely" (defScope s_are_lonely) s.heap.objs.size T.a_are_lonely cdv)).units + 65 < cLine := by have := hr.un; omega
    exact (dss_cons (ds_ret (dv_cmp op_ge d_ge (dv_ix hK.symm (dv_var 0) dv_int (fun _ _ => rfl)) (dv_var 1) (by rfl)))
      dss_nil)
theorem sc_bezout : FnScope ["one", "other", "first", "second", "x", "y", "times"] ["one", "other"] (defScope s_bezout) := ⟨rfl, rfl, rfl, by decide +kernel, rfl, by decide +kernel, by decide +kernel⟩
theorem ok_bezout (T : Txt P w K mg cl) : FnP P w K mg base cl 1 T.a_bezout T.fd_bezout ["one", "other"] PM.m_bezout :=
  fnp (N := ["one", "other", "first", "second", "x", "y", "times"]) (ps := ["one", "other"]) (k := 0) T.F_bezout sc_bezout rfl fun cdv A outer s H E C hK hcl hr bd => by
    subst hcl
    have nd := sc_bezout.nd
    have hu64 := hr.units
    have hu65 : (A.deeper (envOfC "bezout" (defScope s_bezout) s.heap.objs.size T.a_bezout cdv)).units + 65 < cLine := by have := hr.un; omega
    exact (dss_cons (ds_asg (dv_tup (da_cons (dv_var 0) (da_cons (dv_var 1) (da_cons dv_int (da_cons dv_int da_nil))))) (dg_tup (n := 4) hK.symm bd.calm (dgs_cons (dg_name (i := 2) nd rfl (Or.inl rfl)) (dgs_cons (dg_name (i := 3) nd rfl (Or.inl rfl)) (dgs_cons (dg_name (i := 4) nd rfl (Or.inl rfl)) (dgs_cons (dg_name (i := 5) nd rfl (Or.inl rfl)) dgs_nil))))))
      (dss_cons (ds_while bd.own (dt_cmp (op_neD hu64) (d_ne hK.symm) (dv_var 3) dv_int (by rfl))
      (dss_cons (ds_set (i := 6) nd rfl (Or.inl rfl) (dv_op op_fdivA d_fdiv (dv_var 2) (dv_var 3)))
      (dss_cons (ds_par (i := 2) (j := 3) bd.calm nd rfl rfl (by decide) rfl rfl (da_cons (dv_var 3) (da_cons (dv_op op_sub d_sub (dv_var 2) (dv_op op_mulA d_mul (dv_var 6) (dv_var 3))) da_nil)) rfl)
      (dss_cons (ds_par (i := 4) (j := 5) bd.calm nd rfl rfl (by decide) rfl rfl (da_cons (dv_var 5) (da_cons (dv_op op_sub d_sub (dv_var 4) (dv_op op_mulA d_mul (dv_var 6) (dv_var 5))) da_nil)) rfl)
      dss_nil))))
      (dss_cons (ds_ret (dv_if (dt_cmp op_ge d_ge (dv_var 2) dv_int (by rfl)) (dv_tup (da_cons (dv_var 2) (da_cons (dv_var 4) da_nil))) (dv_tup (da_cons (dv_un un_neg d_neg (dv_var 2)) (da_cons (dv_un un_neg d_neg (dv_var 4)) da_nil)))))
      dss_nil)))
theorem sc_different_banks : FnScope ["by", "banks"] ["by", "banks"] (defScope s_different_banks) := ⟨rfl, rfl, rfl, by decide +kernel, rfl, by decide +kernel, by decide +kernel⟩
theorem ok_different_banks (T : Txt P w K mg cl) : FnP P w K mg base cl 2 T.a_different_banks T.fd_different_banks ["by", "banks"] PM.m_different_banks :=
  fnp (N := ["by", "banks"]) (ps := ["by", "banks"]) (k := 1) T.F_different_banks sc_different_banks rfl fun cdv A outer s H E C hK hcl hr bd => by
    subst hcl
    have nd := sc_different_banks.nd
    have hu64 := hr.units
    have hu65 : (A.deeper (envOfC "different_banks" (defScope s_different_banks) s.heap.objs.size T.a_different_banks cdv)).units + 65 < cLine := by have := hr.un; omega
    exact (dss_cons (ds_ret (dv_op op_fdivA d_fdiv (dv_var 1) (dv_ix hK.symm (dv_call (ok_bezout T) (L2.Room.mono (j := 1) hr (by decide)) bd.gu bd.tk hK.symm T.mg_bezout T.F_bezout.kp T.b_bezout (dl_pv (dv_op op_modN d_mod (dv_var 0) (dv_var 1)) (dl_pv (dv_var 1) dl_nil))) dv_int (fun _ _ => rfl))))
      dss_nil)
theorem sc_degree_for : FnScope ["many", "by", "banks", "spread"] ["many", "by", "banks"] (defScope s_degree_for) := ⟨rfl, rfl, rfl, by decide +kernel, rfl, by decide +kernel, by decide +kernel⟩
theorem ok_degree_for (T : Txt P w K mg cl) : FnP P w K mg base cl 3 T.a_degree_for T.fd_degree_for ["many", "by", "banks"] PM.m_degree_for :=
  fnp (N := ["many", "by", "banks", "spread"]) (ps := ["many", "by", "banks"]) (k := 2) T.F_degree_for sc_degree_for rfl fun cdv A outer s H E C hK hcl hr bd => by
    subst hcl
    have nd := sc_degree_for.nd
    have hu64 := hr.units
    have hu65 : (A.deeper (envOfC "degree_for" (defScope s_degree_for) s.heap.objs.size T.a_degree_for cdv)).units + 65 < cLine := by have := hr.un; omega
    exact (dss_cons (ds_if (dt_of (dw_or (dt_cmp (op_eqD hu64) (d_eq hK.symm) (dv_var 0) dv_int (by rfl)) (dw_or1 (dt_cmp (op_eqD hu64) (d_eq hK.symm) (dv_var 1) dv_int (by rfl)))))
      (dss_cons (ds_ret (dv_callB (call_min2 bd.calm) c_min2 rfl T.z_min (by decide +kernel) (da_cons (dv_var 0) (da_cons dv_int da_nil))))
      dss_nil)
      dss_nil)
      (dss_cons (ds_set (i := 3) nd rfl (Or.inl rfl) (dv_call (ok_different_banks T) (L2.Room.mono (j := 2) hr (by decide)) bd.gu bd.tk hK.symm T.mg_different_banks T.F_different_banks.kp T.b_different_banks (dl_pv (dv_var 1) (dl_pv (dv_var 2) dl_nil))))
      (dss_cons (ds_ret (dv_op op_fdivA d_fdiv (dv_op op_sub d_sub (dv_op op_addA (d_add hK.symm) (dv_var 0) (dv_var 3)) dv_int) (dv_var 3)))
      dss_nil)))
theorem sc_first_of : FnScope ["guard", "low", "high", "step", "rest"] ["guard"] (defScope s_first_of) := ⟨rfl, rfl, rfl, by decide +kernel, rfl, by decide +kernel, by decide +kernel⟩
theorem ok_first_of (T : Txt P w K mg cl) : FnP P w K mg base cl 1 T.a_first_of T.fd_first_of ["guard"] PM.m_first_of :=
  fnp (N := ["guard", "low", "high", "step", "rest"]) (ps := ["guard"]) (k := 0) T.F_first_of sc_first_of rfl fun cdv A outer s H E C hK hcl hr bd => by
    subst hcl
    have nd := sc_first_of.nd
    have hu64 := hr.units
    have hu65 : (A.deeper (envOfC "first_of" (defScope s_first_of) s.heap.objs.size T.a_first_of cdv)).units + 65 < cLine := by have := hr.un; omega
    exact (dss_cons (ds_asg (dv_var 0) (dg_tup (n := 4) hK.symm bd.calm (dgs_cons (dg_name (i := 1) nd rfl (Or.inl rfl)) (dgs_cons (dg_name (i := 2) nd rfl (Or.inl rfl)) (dgs_cons (dg_name (i := 3) nd rfl (Or.inl rfl)) (dgs_cons (dg_name (i := 4) nd rfl (Or.inl rfl)) dgs_nil))))))
      (dss_cons (ds_ret (dv_op op_addA (d_add hK.symm) (dv_var 1) (dv_op op_modN d_mod (dv_op op_sub d_sub (dv_var 4) (dv_var 1)) (dv_var 3))))
      dss_nil))
theorem sc_lanes_of : FnScope ["guard"] ["guard"] (defScope s_lanes_of) := ⟨rfl, rfl, rfl, by decide +kernel, rfl, by decide +kernel, by decide +kernel⟩
theorem ok_lanes_of (T : Txt P w K mg cl) : FnP P w K mg base cl 2 T.a_lanes_of T.fd_lanes_of ["guard"] PM.m_lanes_of :=
  fnp (N := ["guard"]) (ps := ["guard"]) (k := 1) T.F_lanes_of sc_lanes_of rfl fun cdv A outer s H E C hK hcl hr bd => by
    subst hcl
    have nd := sc_lanes_of.nd
    have hu64 := hr.units
    have hu65 : (A.deeper (envOfC "lanes_of" (defScope s_lanes_of) s.heap.objs.size T.a_lanes_of cdv)).units + 65 < cLine := by have := hr.un; omega
    exact (dss_cons (ds_ret (dv_callB (call_max2 bd.calm) c_max2 rfl T.z_max (by decide +kernel) (da_cons dv_int (da_cons (dv_op op_fdivA d_fdiv (dv_op op_sub d_sub (dv_op op_addA (d_add hK.symm) (dv_op op_sub d_sub (dv_ix hK.symm (dv_var 0) dv_int (fun _ _ => rfl)) (dv_call (ok_first_of T) (L2.Room.mono (j := 1) hr (by decide)) bd.gu bd.tk hK.symm T.mg_first_of T.F_first_of.kp T.b_first_of (dl_pv (dv_var 0) dl_nil))) (dv_ix hK.symm (dv_var 0) dv_int (fun _ _ => rfl))) dv_int) (dv_ix hK.symm (dv_var 0) dv_int (fun _ _ => rfl))) da_nil))))
      dss_nil)
theorem sc_part_in : FnScope ["kernel", "access"] ["kernel", "access"] (defScope s_part_in) := ⟨rfl, rfl, rfl, by decide +kernel, rfl, by decide +kernel, by decide +kernel⟩
theorem ok_part_in (T : Txt P w K mg cl) : FnP P w K mg base cl 1 T.a_part_in T.fd_part_in ["kernel", "access"] PM.m_part_in :=
  fnp (N := ["kernel", "access"]) (ps := ["kernel", "access"]) (k := 0) T.F_part_in sc_part_in rfl fun cdv A outer s H E C hK hcl hr bd => by
    subst hcl
    have nd := sc_part_in.nd
    have hu64 := hr.units
    have hu65 : (A.deeper (envOfC "part_in" (defScope s_part_in) s.heap.objs.size T.a_part_in cdv)).units + 65 < cLine := by have := hr.un; omega
    exact (dss_cons (ds_ret (dv_tup (da_cons (dv_ix hK.symm (dv_ix hK.symm (dv_fld "Kernel" "kept_statements" hK.symm (dv_var 0) T.k_Kernel T.na_Kernel_kept_statements) (dv_ix hK.symm (dv_var 1) dv_int (fun _ _ => rfl)) (fun _ _ => rfl)) dv_int (fun _ _ => rfl)) (da_cons (dv_ix hK.symm (dv_var 1) dv_int (fun _ _ => rfl)) (da_cons (dv_ix hK.symm (dv_var 1) dv_int (fun _ _ => rfl)) da_nil)))))
      dss_nil)
theorem sc_in_wave : FnScope ["guard", "wave", "number", "low", "high", "step", "rest"] ["guard", "wave", "number"] (defScope s_in_wave) := ⟨rfl, rfl, rfl, by decide +kernel, rfl, by decide +kernel, by decide +kernel⟩
theorem ok_in_wave (T : Txt P w K mg cl) : FnP P w K mg base cl 1 T.a_in_wave T.fd_in_wave ["guard", "wave", "number"] PM.m_in_wave :=
  fnp (N := ["guard", "wave", "number", "low", "high", "step", "rest"]) (ps := ["guard", "wave", "number"]) (k := 0) T.F_in_wave sc_in_wave rfl fun cdv A outer s H E C hK hcl hr bd => by
    subst hcl
    have nd := sc_in_wave.nd
    have hu64 := hr.units
    have hu65 : (A.deeper (envOfC "in_wave" (defScope s_in_wave) s.heap.objs.size T.a_in_wave cdv)).units + 65 < cLine := by have := hr.un; omega
    exact (dss_cons (ds_asg (dv_var 0) (dg_tup (n := 4) hK.symm bd.calm (dgs_cons (dg_name (i := 3) nd rfl (Or.inl rfl)) (dgs_cons (dg_name (i := 4) nd rfl (Or.inl rfl)) (dgs_cons (dg_name (i := 5) nd rfl (Or.inl rfl)) (dgs_cons (dg_name (i := 6) nd rfl (Or.inl rfl)) dgs_nil))))))
      (dss_cons (ds_ret (dv_tup (da_cons (dv_callB (call_max2 bd.calm) c_max2 rfl T.z_max (by decide +kernel) (da_cons (dv_var 3) (da_cons (dv_op op_mulA d_mul (dv_var 1) (dv_var 2)) da_nil))) (da_cons (dv_callB (call_min2 bd.calm) c_min2 rfl T.z_min (by decide +kernel) (da_cons (dv_var 4) (da_cons (dv_op op_addA (d_add hK.symm) (dv_op op_mulA d_mul (dv_var 1) (dv_var 2)) (dv_var 1)) da_nil))) (da_cons (dv_var 5) (da_cons (dv_var 6) da_nil))))))
      dss_nil))
theorem sc_lane_at : FnScope ["guard", "number"] ["guard", "number"] (defScope s_lane_at) := ⟨rfl, rfl, rfl, by decide +kernel, rfl, by decide +kernel, by decide +kernel⟩
theorem ok_lane_at (T : Txt P w K mg cl) : FnP P w K mg base cl 2 T.a_lane_at T.fd_lane_at ["guard", "number"] PM.m_lane_at :=
  fnp (N := ["guard", "number"]) (ps := ["guard", "number"]) (k := 1) T.F_lane_at sc_lane_at rfl fun cdv A outer s H E C hK hcl hr bd => by
    subst hcl
    have nd := sc_lane_at.nd
    have hu64 := hr.units
    have hu65 : (A.deeper (envOfC "lane_at" (defScope s_lane_at) s.heap.objs.size T.a_lane_at cdv)).units + 65 < cLine := by have := hr.un; omega
    exact (dss_cons (ds_ret (dv_op op_addA (d_add hK.symm) (dv_call (ok_first_of T) (L2.Room.mono (j := 1) hr (by decide)) bd.gu bd.tk hK.symm T.mg_first_of T.F_first_of.kp T.b_first_of (dl_pv (dv_var 0) dl_nil)) (dv_op op_mulA d_mul (dv_ix hK.symm (dv_var 0) dv_int (fun _ _ => rfl)) (dv_var 1))))
      dss_nil)
theorem sc_last_of : FnScope ["guard"] ["guard"] (defScope s_last_of) := ⟨rfl, rfl, rfl, by decide +kernel, rfl, by decide +kernel, by decide +kernel⟩
theorem ok_last_of (T : Txt P w K mg cl) : FnP P w K mg base cl 3 T.a_last_of T.fd_last_of ["guard"] PM.m_last_of :=
  fnp (N := ["guard"]) (ps := ["guard"]) (k := 2) T.F_last_of sc_last_of rfl fun cdv A outer s H E C hK hcl hr bd => by
    subst hcl
    have nd := sc_last_of.nd
    have hu64 := hr.units
    have hu65 : (A.deeper (envOfC "last_of" (defScope s_last_of) s.heap.objs.size T.a_last_of cdv)).units + 65 < cLine := by have := hr.un; omega
    exact (dss_cons (ds_ret (dv_call (ok_lane_at T) (L2.Room.mono (j := 2) hr (by decide)) bd.gu bd.tk hK.symm T.mg_lane_at T.F_lane_at.kp T.b_lane_at (dl_pv (dv_var 0) (dl_pv (dv_op op_sub d_sub (dv_call (ok_lanes_of T) (L2.Room.mono (j := 2) hr (by decide)) bd.gu bd.tk hK.symm T.mg_lanes_of T.F_lanes_of.kp T.b_lanes_of (dl_pv (dv_var 0) dl_nil)) dv_int) dl_nil))))
      dss_nil)
theorem sc_waves_of : FnScope ["guard", "wave", "first", "last", "found", "period", "number"] ["guard", "wave"] (defScope s_waves_of) := ⟨rfl, rfl, rfl, by decide +kernel, rfl, by decide +kernel, by decide +kernel⟩
theorem ok_waves_of (T : Txt P w K mg cl) : FnP P w K mg base cl 4 T.a_waves_of T.fd_waves_of ["guard", "wave"] PM.m_waves_of :=
  fnp (N := ["guard", "wave", "first", "last", "found", "period", "number"]) (ps := ["guard", "wave"]) (k := 3) T.F_waves_of sc_waves_of rfl fun cdv A outer s H E C hK hcl hr bd => by
    subst hcl
    have nd := sc_waves_of.nd
    have hu64 := hr.units
    have hu65 : (A.deeper (envOfC "waves_of" (defScope s_waves_of) s.heap.objs.size T.a_waves_of cdv)).units + 65 < cLine := by have := hr.un; omega
    exact (dss_cons (ds_if (dt_cmp (op_eqD hu64) (d_eq hK.symm) (dv_call (ok_lanes_of T) (L2.Room.mono (j := 2) hr (by decide)) bd.gu bd.tk hK.symm T.mg_lanes_of T.F_lanes_of.kp T.b_lanes_of (dl_pv (dv_var 0) dl_nil)) dv_int (by rfl))
      (dss_cons (ds_ret (dv_frz (do_lst da_nil)))
      dss_nil)
      dss_nil)
      (dss_cons (ds_par (i := 2) (j := 3) bd.calm nd rfl rfl (by decide) rfl rfl (da_cons (dv_op op_fdivA d_fdiv (dv_call (ok_first_of T) (L2.Room.mono (j := 1) hr (by decide)) bd.gu bd.tk hK.symm T.mg_first_of T.F_first_of.kp T.b_first_of (dl_pv (dv_var 0) dl_nil)) (dv_var 1)) (da_cons (dv_op op_fdivA d_fdiv (dv_call (ok_last_of T) (L2.Room.mono (j := 3) hr (by decide)) bd.gu bd.tk hK.symm T.mg_last_of T.F_last_of.kp T.b_last_of (dl_pv (dv_var 0) dl_nil)) (dv_var 1)) da_nil)) rfl)
      (dss_cons (ds_setO (i := 4) nd rfl (Or.inl rfl) (do_lst (da_cons (dv_tup (da_cons (dv_call (ok_in_wave T) (L2.Room.mono (j := 1) hr (by decide)) bd.gu bd.tk hK.symm T.mg_in_wave T.F_in_wave.kp T.b_in_wave (dl_pv (dv_var 0) (dl_pv (dv_var 1) (dl_pv (dv_var 2) dl_nil)))) (da_cons dv_int (da_cons dv_int da_nil)))) da_nil)))
      (dss_cons (ds_if (dt_cmp op_gt d_gt (dv_var 3) (dv_var 2) (by rfl))
      (dss_cons (ds_app 4 (dv_tup (da_cons (dv_call (ok_in_wave T) (L2.Room.mono (j := 1) hr (by decide)) bd.gu bd.tk hK.symm T.mg_in_wave T.F_in_wave.kp T.b_in_wave (dl_pv (dv_var 0) (dl_pv (dv_var 1) (dl_pv (dv_var 3) dl_nil)))) (da_cons dv_int (da_cons dv_int da_nil)))))
      dss_nil)
      dss_nil)
      (dss_cons (ds_set (i := 5) nd rfl (Or.inl rfl) (dv_op op_fdivA d_fdiv (dv_ix hK.symm (dv_var 0) dv_int (fun _ _ => rfl)) (dv_ix hK.symm (dv_call (ok_bezout T) (L2.Room.mono (j := 1) hr (by decide)) bd.gu bd.tk hK.symm T.mg_bezout T.F_bezout.kp T.b_bezout (dl_pv (dv_ix hK.symm (dv_var 0) dv_int (fun _ _ => rfl)) (dl_pv (dv_var 1) dl_nil))) dv_int (fun _ _ => rfl))))
      (dss_cons (ds_for bd.own bd.calm (di_rangeW2 rfl T.z_range (da_cons (dv_op op_addA (d_add hK.symm) (dv_var 2) dv_int) (da_cons (dv_callB (call_min2 bd.calm) c_min2 rfl T.z_min (by decide +kernel) (da_cons (dv_op op_addA (d_add hK.symm) (dv_op op_addA (d_add hK.symm) (dv_var 2) dv_int) (dv_var 5)) (da_cons (dv_var 3) da_nil))) da_nil))) (dg_name (i := 6) nd rfl (Or.inl rfl))
      (dss_cons (ds_app 4 (dv_tup (da_cons (dv_call (ok_in_wave T) (L2.Room.mono (j := 1) hr (by decide)) bd.gu bd.tk hK.symm T.mg_in_wave T.F_in_wave.kp T.b_in_wave (dl_pv (dv_var 0) (dl_pv (dv_var 1) (dl_pv (dv_var 6) dl_nil)))) (da_cons (dv_op op_mulA d_mul (dv_var 5) (dv_var 1)) (da_cons (dv_op op_addA (d_add hK.symm) (dv_op op_fdivA d_fdiv (dv_op op_sub d_sub (dv_op op_sub d_sub (dv_var 3) dv_int) (dv_var 6)) (dv_var 5)) dv_int) da_nil)))))
      dss_nil))
      (dss_cons (ds_ret (dv_frz (do_mv 4)))
      dss_nil)))))))
theorem sc_waves_with : FnScope ["guard", "wave", "many"] ["guard", "wave"] (defScope s_waves_with) := ⟨rfl, rfl, rfl, by decide +kernel, rfl, by decide +kernel, by decide +kernel⟩
theorem ok_waves_with (T : Txt P w K mg cl) : FnP P w K mg base cl 4 T.a_waves_with T.fd_waves_with ["guard", "wave"] PM.m_waves_with :=
  fnp (N := ["guard", "wave", "many"]) (ps := ["guard", "wave"]) (k := 3) T.F_waves_with sc_waves_with rfl fun cdv A outer s H E C hK hcl hr bd => by
    subst hcl
    have nd := sc_waves_with.nd
    have hu64 := hr.units
    have hu65 : (A.deeper (envOfC "waves_with" (defScope s_waves_with) s.heap.objs.size T.a_waves_with cdv)).units + 65 < cLine := by have := hr.un; omega
    exact (dss_cons (ds_set (i := 2) nd rfl (Or.inl rfl) (dv_call (ok_lanes_of T) (L2.Room.mono (j := 2) hr (by decide)) bd.gu bd.tk hK.symm T.mg_lanes_of T.F_lanes_of.kp T.b_lanes_of (dl_pv (dv_var 0) dl_nil)))
      (dss_cons (ds_if (dt_of (dw_or (dt_cmp (op_eqD hu64) (d_eq hK.symm) (dv_var 2) dv_int (by rfl)) (dw_or1 (dt_tru hK.symm (dv_call (ok_are_lonely T) (L2.Room.mono (j := 1) hr (by decide)) bd.gu bd.tk hK.symm T.mg_are_lonely T.F_are_lonely.kp T.b_are_lonely (dl_pv (dv_var 0) (dl_pv (dv_var 1) dl_nil)))))))
      (dss_cons (ds_ret (dv_var 2))
      dss_nil)
      dss_nil)
      (dss_cons (ds_ret (dv_op op_addA (d_add hK.symm) (dv_op op_sub d_sub (dv_op op_fdivA d_fdiv (dv_call (ok_last_of T) (L2.Room.mono (j := 3) hr (by decide)) bd.gu bd.tk hK.symm T.mg_last_of T.F_last_of.kp T.b_last_of (dl_pv (dv_var 0) dl_nil)) (dv_var 1)) (dv_op op_fdivA d_fdiv (dv_call (ok_first_of T) (L2.Room.mono (j := 1) hr (by decide)) bd.gu bd.tk hK.symm T.mg_first_of T.F_first_of.kp T.b_first_of (dl_pv (dv_var 0) dl_nil)) (dv_var 1))) dv_int))
      dss_nil)))
theorem sc_degrees_of : FnScope ["kernel", "access", "wave", "banks", "guard", "a", "b", "by", "part", "moved", "many"] ["kernel", "access", "wave", "banks"] (defScope s_degrees_of) := ⟨rfl, rfl, rfl, by decide +kernel, rfl, by decide +kernel, by decide +kernel⟩
theorem ok_degrees_of (T : Txt P w K mg cl) : FnP P w K mg base cl 5 T.a_degrees_of T.fd_degrees_of ["kernel", "access", "wave", "banks"] m_degrees_of :=
  fnp (N := ["kernel", "access", "wave", "banks", "guard", "a", "b", "by", "part", "moved", "many"]) (ps := ["kernel", "access", "wave", "banks"]) (k := 4) T.F_degrees_of sc_degrees_of rfl fun cdv A outer s H E C hK hcl hr bd => by
    subst hcl
    have nd := sc_degrees_of.nd
    have hu64 := hr.units
    have hu65 : (A.deeper (envOfC "degrees_of" (defScope s_degrees_of) s.heap.objs.size T.a_degrees_of cdv)).units + 65 < cLine := by have := hr.un; omega
    exact (dss_cons (ds_asg (dv_call (ok_part_in T) (L2.Room.mono (j := 1) hr (by decide)) bd.gu bd.tk hK.symm T.mg_part_in T.F_part_in.kp T.b_part_in (dl_pv (dv_var 0) (dl_pv (dv_ix hK.symm (dv_call (ok_access_list T) (L2.Room.mono (j := 2) hr (by decide)) bd.gu bd.tk hK.symm T.mg_access_list T.F_access_list.kp T.b_access_list (dl_pv (dv_var 0) dl_nil)) (dv_var 1) (fun _ _ => rfl)) dl_nil))) (dg_tup (n := 3) hK.symm bd.calm (dgs_cons (dg_name (i := 4) nd rfl (Or.inl rfl)) (dgs_cons (dg_name (i := 5) nd rfl (Or.inl rfl)) (dgs_cons (dg_name (i := 6) nd rfl (Or.inl rfl)) dgs_nil)))))
      (dss_cons (ds_if (dt_of (dw_or (dt_cmp (op_eqD hu64) (d_eq hK.symm) (dv_var 5) dv_int (by rfl)) (dw_or1 (dt_tru hK.symm (dv_call (ok_are_lonely T) (L2.Room.mono (j := 1) hr (by decide)) bd.gu bd.tk hK.symm T.mg_are_lonely T.F_are_lonely.kp T.b_are_lonely (dl_pv (dv_var 4) (dl_pv (dv_var 2) dl_nil)))))))
      (dss_cons (ds_ret (dv_frz (do_lst (da_cons (dv_tup (da_cons dv_int (da_cons (dv_call (ok_waves_with T) (L2.Room.mono (j := 4) hr (by decide)) bd.gu bd.tk hK.symm T.mg_waves_with T.F_waves_with.kp T.b_waves_with (dl_pv (dv_var 4) (dl_pv (dv_var 2) dl_nil))) da_nil))) da_nil))))
      dss_nil)
      dss_nil)
      (dss_cons (ds_set (i := 7) nd rfl (Or.inr rfl) (dv_op op_mulA d_mul (dv_var 5) (dv_ix hK.symm (dv_var 4) dv_int (fun _ _ => rfl))))
      (dss_cons (ds_ret (dv_frz (do_lc (own := [("part", 8), ("moved", 9), ("many", 10)]) bd.calm nd (blkOk_by (N := ["kernel", "access", "wave", "banks", "guard", "a", "b", "by", "part", "moved", "many"]) (sc := defScope s_degrees_of) (by decide +kernel)) (di_any hK.symm (dv_call (ok_waves_of T) (L2.Room.mono (j := 4) hr (by decide)) bd.gu bd.tk hK.symm T.mg_waves_of T.F_waves_of.kp T.b_waves_of (dl_pv (dv_var 4) (dl_pv (dv_var 2) dl_nil)))) (fun _ _ _ _ _ => by exact (dg_tup (n := 3) hK.symm (by exact bd.calm) (dgs_cons (dg_name (i := 8) nd rfl (by first | exact Or.inl rfl | exact Or.inr rfl) (hv := by rfl)) (dgs_cons (dg_name (i := 9) nd rfl (by first | exact Or.inl rfl | exact Or.inr rfl) (hv := by rfl)) (dgs_cons (dg_name (i := 10) nd rfl (by first | exact Or.inl rfl | exact Or.inr rfl) (hv := by rfl)) dgs_nil))))) (fun _ _ _ _ _ => by exact dts_nil) (fun _ _ _ _ _ => by exact (dv_tup (da_cons (dv_call (ok_degree_for T) (by exact (L2.Room.mono (j := 3) hr (by decide))) (by exact bd.gu) takes0 hK.symm T.mg_degree_for T.F_degree_for.kp T.b_degree_for (dl_pv (dv_call (ok_lanes_of T) (by exact (L2.Room.mono (j := 2) hr (by decide))) (by exact bd.gu) takes0 hK.symm T.mg_lanes_of T.F_lanes_of.kp T.b_lanes_of (dl_pv (dv_var 8) dl_nil)) (dl_pv (dv_var 7) (dl_pv (dv_var 3) dl_nil)))) (da_cons (dv_var 10) da_nil)))))))
      dss_nil))))
theorem sc_greatest_degree : FnScope ["kernel", "access", "wave", "banks", "degree", "many"] ["kernel", "access", "wave", "banks"] (defScope s_greatest_degree) := ⟨rfl, rfl, rfl, by decide +kernel, rfl, by decide +kernel, by decide +kernel⟩
theorem ok_greatest_degree (T : Txt P w K mg cl) : FnP P w K mg base cl 6 T.a_greatest_degree T.fd_greatest_degree ["kernel", "access", "wave", "banks"] m_greatest_degree :=
  fnp (N := ["kernel", "access", "wave", "banks", "degree", "many"]) (ps := ["kernel", "access", "wave", "banks"]) (k := 5) T.F_greatest_degree sc_greatest_degree rfl fun cdv A outer s H E C hK hcl hr bd => by
    subst hcl
    have nd := sc_greatest_degree.nd
    have hu64 := hr.units
    have hu65 : (A.deeper (envOfC "greatest_degree" (defScope s_greatest_degree) s.heap.objs.size T.a_greatest_degree cdv)).units + 65 < cLine := by have := hr.un; omega
    exact (dss_cons (ds_expr (dv_call (ok_check_access T) (L2.Room.mono (j := 3) hr (by decide)) bd.gu bd.tk hK.symm T.mg_check_access T.F_check_access.kp T.b_check_access (dl_pv (dv_var 0) (dl_pv (dv_var 1) dl_nil))))
      (dss_cons (ds_expr (dv_call (ok_check_wave T) (L2.Room.mono (j := 1) hr (by decide)) bd.gu bd.tk hK.symm T.mg_check_wave T.F_check_wave.kp T.b_check_wave (dl_pv (dv_var 2) dl_nil)))
      (dss_cons (ds_expr (dv_call (ok_check_banks T) (L2.Room.mono (j := 1) hr (by decide)) bd.gu bd.tk hK.symm T.mg_check_banks T.F_check_banks.kp T.b_check_banks (dl_pv (dv_var 3) dl_nil)))
      (dss_cons (ds_ret (dv_callB (cr_max bd.calm) (c_max1 hK.symm) rfl T.z_max (by decide +kernel) (da_cons (dv_frz (do_lst (da_cons dv_int (da_star hK.symm (dv_frz (do_lc (own := [("degree", 4), ("many", 5)]) bd.calm nd (blkOk_by (N := ["kernel", "access", "wave", "banks", "degree", "many"]) (sc := defScope s_greatest_degree) (by decide +kernel)) (di_any hK.symm (dv_call (ok_degrees_of T) (L2.Room.mono (j := 5) hr (by decide)) bd.gu bd.tk hK.symm T.mg_degrees_of T.F_degrees_of.kp T.b_degrees_of (dl_pv (dv_var 0) (dl_pv (dv_var 1) (dl_pv (dv_var 2) (dl_pv (dv_var 3) dl_nil)))))) (fun _ _ _ _ _ => by exact (dg_tup (n := 2) hK.symm (by exact bd.calm) (dgs_cons (dg_name (i := 4) nd rfl (by first | exact Or.inl rfl | exact Or.inr rfl) (hv := by rfl)) (dgs_cons (dg_name (i := 5) nd rfl (by first | exact Or.inl rfl | exact Or.inr rfl) (hv := by rfl)) dgs_nil)))) (fun _ _ _ _ _ => by exact (dts_one (dt_cmp op_gt d_gt (dv_var 5) dv_int (by rfl)))) (fun _ _ _ _ _ => by exact (dv_var 4)))) da_nil)))) da_nil)))
      dss_nil))))
theorem sc_total_degree : FnScope ["kernel", "access", "wave", "banks", "degree", "many"] ["kernel", "access", "wave", "banks"] (defScope s_total_degree) := ⟨rfl, rfl, rfl, by decide +kernel, rfl, by decide +kernel, by decide +kernel⟩
theorem ok_total_degree (T : Txt P w K mg cl) : FnP P w K mg base cl 6 T.a_total_degree T.fd_total_degree ["kernel", "access", "wave", "banks"] m_total_degree :=
  fnp (N := ["kernel", "access", "wave", "banks", "degree", "many"]) (ps := ["kernel", "access", "wave", "banks"]) (k := 5) T.F_total_degree sc_total_degree rfl fun cdv A outer s H E C hK hcl hr bd => by
    subst hcl
    have nd := sc_total_degree.nd
    have hu64 := hr.units
    have hu65 : (A.deeper (envOfC "total_degree" (defScope s_total_degree) s.heap.objs.size T.a_total_degree cdv)).units + 65 < cLine := by have := hr.un; omega
    exact (dss_cons (ds_expr (dv_call (ok_check_access T) (L2.Room.mono (j := 3) hr (by decide)) bd.gu bd.tk hK.symm T.mg_check_access T.F_check_access.kp T.b_check_access (dl_pv (dv_var 0) (dl_pv (dv_var 1) dl_nil))))
      (dss_cons (ds_expr (dv_call (ok_check_wave T) (L2.Room.mono (j := 1) hr (by decide)) bd.gu bd.tk hK.symm T.mg_check_wave T.F_check_wave.kp T.b_check_wave (dl_pv (dv_var 2) dl_nil)))
      (dss_cons (ds_expr (dv_call (ok_check_banks T) (L2.Room.mono (j := 1) hr (by decide)) bd.gu bd.tk hK.symm T.mg_check_banks T.F_check_banks.kp T.b_check_banks (dl_pv (dv_var 3) dl_nil)))
      (dss_cons (ds_ret (dv_callB (PLS.cr_sum2 bd.calm) (c_sum hK.symm) rfl T.z_sum (by decide +kernel) (da_cons (dv_frz (do_lc (own := [("degree", 4), ("many", 5)]) bd.calm nd (blkOk_by (N := ["kernel", "access", "wave", "banks", "degree", "many"]) (sc := defScope s_total_degree) (by decide +kernel)) (di_any hK.symm (dv_call (ok_degrees_of T) (L2.Room.mono (j := 5) hr (by decide)) bd.gu bd.tk hK.symm T.mg_degrees_of T.F_degrees_of.kp T.b_degrees_of (dl_pv (dv_var 0) (dl_pv (dv_var 1) (dl_pv (dv_var 2) (dl_pv (dv_var 3) dl_nil)))))) (fun _ _ _ _ _ => by exact (dg_tup (n := 2) hK.symm (by exact bd.calm) (dgs_cons (dg_name (i := 4) nd rfl (by first | exact Or.inl rfl | exact Or.inr rfl) (hv := by rfl)) (dgs_cons (dg_name (i := 5) nd rfl (by first | exact Or.inl rfl | exact Or.inr rfl) (hv := by rfl)) dgs_nil)))) (fun _ _ _ _ _ => by exact dts_nil) (fun _ _ _ _ _ => by exact (dv_op op_mulA d_mul (dv_var 4) (dv_var 5))))) da_nil)))
      dss_nil))))
theorem sc__law_told : FnScope ["total", "guard", "a", "b", "span", "many", "made"] ["total", "guard", "a", "b", "span", "many"] (defScope s__law_told) := ⟨rfl, rfl, rfl, by decide +kernel, rfl, by decide +kernel, by decide +kernel⟩
theorem ok__law_told (T : Txt P w K mg cl) : FnP P w K mg base cl 7 T.a__law_told T.fd__law_told ["total", "guard", "a", "b", "span", "many"] m__law_told :=
  fnp (N := ["total", "guard", "a", "b", "span", "many", "made"]) (ps := ["total", "guard", "a", "b", "span", "many"]) (k := 6) T.F__law_told sc__law_told rfl fun cdv A outer s H E C hK hcl hr bd => by
    subst hcl
    have nd := sc__law_told.nd
    have hu64 := hr.units
    have hu65 : (A.deeper (envOfC "_law_told" (defScope s__law_told) s.heap.objs.size T.a__law_told cdv)).units + 65 < cLine := by have := hr.un; omega
    exact (dss_cons (ds_set (i := 6) nd rfl (Or.inl rfl) (dv_make1 (c := "Kernel") T.mk_Kernel (ok_Kernel___init__ T) (L2.Room.mono (j := 4) hr (by decide)) bd.gu bd.tk hK.symm T.mg_Kernel T.bd_Kernel___init__ (da_cons (dv_var 0) (da_cons (dv_frz (do_lst (da_cons (dv_tup (da_cons dv_str (da_cons (dv_var 1) (da_cons dv_str (da_cons (dv_var 2) (da_cons (dv_var 3) (da_cons dv_int (da_cons dv_int da_nil)))))))) da_nil))) da_nil))))
      (dss_cons (ds_ret (dv_frz (do_lst (da_cons (dv_call (ok_total_degree T) (L2.Room.mono (j := 6) hr (by decide)) bd.gu bd.tk hK.symm T.mg_total_degree T.F_total_degree.kp T.b_total_degree (dl_pv (dv_var 6) (dl_pv dv_int (dl_pv (dv_var 4) (dl_pv (dv_var 5) dl_nil))))) (da_cons (dv_call (ok_greatest_degree T) (L2.Room.mono (j := 6) hr (by decide)) bd.gu bd.tk hK.symm T.mg_greatest_degree T.F_greatest_degree.kp T.b_greatest_degree (dl_pv (dv_var 6) (dl_pv dv_int (dl_pv (dv_var 4) (dl_pv (dv_var 5) dl_nil))))) da_nil)))))
      dss_nil))
theorem sc__law_right : FnScope ["pool", "guard", "total", "a", "b", "span", "many", "due", "great"] ["pool"] (defScope s__law_right) := ⟨rfl, rfl, rfl, by decide +kernel, rfl, by decide +kernel, by decide +kernel⟩
theorem ok__law_right (T : Txt P w K mg cl) : FnP P w K mg base cl 8 T.a__law_right T.fd__law_right ["pool"] m__law_right :=
  fnp (N := ["pool", "guard", "total", "a", "b", "span", "many", "due", "great"]) (ps := ["pool"]) (k := 7) T.F__law_right sc__law_right rfl fun cdv A outer s H E C hK hcl hr bd => by
    subst hcl
    have nd := sc__law_right.nd
    have hu64 := hr.units
    have hu65 : (A.deeper (envOfC "_law_right" (defScope s__law_right) s.heap.objs.size T.a__law_right cdv)).units + 65 < cLine := by have := hr.un; omega
    exact (dss_cons (ds_asg (dv_call (ok__law_far_guard T) (L2.Room.mono (j := 2) hr (by decide)) bd.gu bd.tk hK.symm T.mg__law_far_guard T.F__law_far_guard.kp T.b__law_far_guard (dl_sl 0 dl_nil)) (dg_tup (n := 2) hK.symm bd.calm (dgs_cons (dg_name (i := 1) nd rfl (Or.inl rfl)) (dgs_cons (dg_name (i := 2) nd rfl (Or.inl rfl)) dgs_nil))))
      (dss_cons (ds_asg (dv_call (ok__law_pair T) (L2.Room.mono (j := 2) hr (by decide)) bd.gu bd.tk hK.symm T.mg__law_pair T.F__law_pair.kp T.b__law_pair (dl_sl 0 (dl_pv dv_int dl_nil))) (dg_tup (n := 2) hK.symm bd.calm (dgs_cons (dg_name (i := 3) nd rfl (Or.inl rfl)) (dgs_cons (dg_name (i := 4) nd rfl (Or.inl rfl)) dgs_nil))))
      (dss_cons (ds_set (i := 5) nd rfl (Or.inl rfl) (dv_ix hK.symm (dv_frz (do_lst (da_cons (dv_op op_addA (d_add hK.symm) dv_int (dv_call (ok__law_draw T) (L2.Room.mono (j := 1) hr (by decide)) bd.gu bd.tk hK.symm T.mg__law_draw T.F__law_draw.kp T.b__law_draw (dl_sl 0 (dl_pv dv_int dl_nil)))) (da_cons dv_int (da_cons dv_int (da_cons (dv_op op_addA (d_add hK.symm) dv_int (dv_call (ok__law_draw T) (L2.Room.mono (j := 1) hr (by decide)) bd.gu bd.tk hK.symm T.mg__law_draw T.F__law_draw.kp T.b__law_draw (dl_sl 0 (dl_pv dv_int dl_nil)))) da_nil)))))) (dv_call (ok__law_draw T) (L2.Room.mono (j := 1) hr (by decide)) bd.gu bd.tk hK.symm T.mg__law_draw T.F__law_draw.kp T.b__law_draw (dl_sl 0 (dl_pv dv_int dl_nil))) (fun _ _ => rfl)))
      (dss_cons (ds_set (i := 6) nd rfl (Or.inl rfl) (dv_op op_addA (d_add hK.symm) dv_int (dv_call (ok__law_draw T) (L2.Room.mono (j := 1) hr (by decide)) bd.gu bd.tk hK.symm T.mg__law_draw T.F__law_draw.kp T.b__law_draw (dl_sl 0 (dl_pv (dv_ix hK.symm (dv_frz (do_lst (da_cons dv_int (da_cons dv_int da_nil)))) (dv_call (ok__law_draw T) (L2.Room.mono (j := 1) hr (by decide)) bd.gu bd.tk hK.symm T.mg__law_draw T.F__law_draw.kp T.b__law_draw (dl_sl 0 (dl_pv dv_int dl_nil))) (fun _ _ => rfl)) dl_nil)))))
      (dss_cons (ds_set (i := 7) nd rfl (Or.inl rfl) (dv_sl hK.symm (dv_call (ok__law_far T) (L2.Room.mono (j := 3) hr (by decide)) bd.gu bd.tk hK.symm T.mg__law_far T.F__law_far.kp T.b__law_far (dl_pv (dv_var 1) (dl_pv (dv_var 3) (dl_pv (dv_var 4) (dl_pv (dv_var 5) (dl_pv dv_int (dl_pv (dv_var 6) dl_nil))))))) (dp_some dv_int) dp_none))
      (dss_cons (ds_if (dt_cmp (op_neD hu64) (d_ne hK.symm) (dv_call (ok__law_told T) (L2.Room.mono (j := 7) hr (by decide)) bd.gu bd.tk hK.symm T.mg__law_told T.F__law_told.kp T.b__law_told (dl_pv (dv_var 2) (dl_pv (dv_var 1) (dl_pv (dv_var 3) (dl_pv (dv_var 4) (dl_pv (dv_var 5) (dl_pv (dv_var 6) dl_nil))))))) (dv_var 7) (by rfl))
      (dss_cons (ds_ret dv_bl)
      dss_nil)
      dss_nil)
      (dss_cons (ds_if (dt_cmp (op_neD hu64) (d_ne hK.symm) (dv_call (ok__law_told T) (L2.Room.mono (j := 7) hr (by decide)) bd.gu bd.tk hK.symm T.mg__law_told T.F__law_told.kp T.b__law_told (dl_pv (dv_var 2) (dl_pv (dv_var 1) (dl_pv (dv_var 3) (dl_pv (dv_op op_sub d_sub (dv_call (ok__law_draw T) (L2.Room.mono (j := 1) hr (by decide)) bd.gu bd.tk hK.symm T.mg__law_draw T.F__law_draw.kp T.b__law_draw (dl_sl 0 (dl_pv (dv_op op_powA d_pow dv_int dv_int) dl_nil))) (dv_op op_powA d_pow dv_int dv_int)) (dl_pv (dv_var 5) (dl_pv (dv_var 6) dl_nil))))))) (dv_var 7) (by rfl))
      (dss_cons (ds_ret dv_bl)
      dss_nil)
      dss_nil)
      (dss_cons (ds_set (i := 8) nd rfl (Or.inl rfl) (dv_op op_addA (d_add hK.symm) (dv_var 3) (dv_op op_mulA d_mul (dv_var 6) (dv_op op_addA (d_add hK.symm) dv_int (dv_call (ok__law_draw T) (L2.Room.mono (j := 1) hr (by decide)) bd.gu bd.tk hK.symm T.mg__law_draw T.F__law_draw.kp T.b__law_draw (dl_sl 0 (dl_pv (dv_op op_powA d_pow dv_int dv_int) dl_nil)))))))
      (dss_cons (ds_ret (dv_or hK.symm (dv_cmp (op_eqD hu64) (d_eq hK.symm) (dv_var 3) dv_int (by rfl)) (dv_or hK.symm (dv_cmp (op_eqD hu64) (d_eq hK.symm) (dv_var 8) dv_int (by rfl)) (dv_one (dv_cmp (op_eqD hu64) (d_eq hK.symm) (dv_call (ok__law_told T) (L2.Room.mono (j := 7) hr (by decide)) bd.gu bd.tk hK.symm T.mg__law_told T.F__law_told.kp T.b__law_told (dl_pv (dv_var 2) (dl_pv (dv_var 1) (dl_pv (dv_var 8) (dl_pv (dv_var 4) (dl_pv (dv_var 5) (dl_pv (dv_var 6) dl_nil))))))) (dv_var 7) (by rfl))))))
      dss_nil)))))))))
theorem sc_law : FnScope ["script", "at", "pool", "turn", "many"] ["script"] (defScope s_law) := ⟨rfl, rfl, rfl, by decide +kernel, rfl, by decide +kernel, by decide +kernel⟩
theorem ok_law (T : Txt P w K mg cl) : FnP P w K mg base cl 9 T.a_law T.fd_law ["script"] m_law :=
  fnp (N := ["script", "at", "pool", "turn", "many"]) (ps := ["script"]) (k := 8) T.F_law sc_law rfl fun cdv A outer s H E C hK hcl hr bd => by
    subst hcl
    have nd := sc_law.nd
    have hu64 := hr.units
    have hu65 : (A.deeper (envOfC "law" (defScope s_law) s.heap.objs.size T.a_law cdv)).units + 65 < cLine := by have := hr.un; omega
    exact (dss_cons (ds_for bd.own bd.calm (di_rangeW1 rfl T.z_range (da_cons (dv_callB (call_max2 bd.calm) c_max2 rfl T.z_max (by decide +kernel) (da_cons dv_int (da_cons (dv_callB (call_min2 bd.calm) c_min2 rfl T.z_min (by decide +kernel) (da_cons dv_int (da_cons (dv_callB call_len (c_len hK.symm) rfl T.z_len (by decide +kernel) (da_cons (dv_var 0) da_nil)) da_nil))) da_nil))) da_nil)) (dg_name (i := 1) nd rfl (Or.inl rfl))
      (dss_cons (ds_setO (i := 2) nd rfl (Or.inl rfl) (do_call (ok__law_pool T) (L2.Room.mono (j := 1) hr (by decide)) bd.gu bd.tk hK.symm T.mg__law_pool T.F__law_pool.kp T.b__law_pool (dl_pv (dv_var 0) (dl_pv (dv_var 1) dl_nil))))
      (dss_cons (ds_for bd.own bd.calm (di_rangeW1 rfl T.z_range (da_cons dv_int da_nil)) (dg_name (i := 3) nd rfl (Or.inl rfl))
      (dss_cons (ds_if (dt_not (dt_tru hK.symm (dv_call (ok__law_right T) (L2.Room.mono (j := 8) hr (by decide)) bd.gu bd.tk hK.symm T.mg__law_right T.F__law_right.kp T.b__law_right (dl_sl 2 dl_nil))))
      (dss_cons (ds_ret dv_bl)
      dss_nil)
      dss_nil)
      dss_nil))
      dss_nil)))
      (dss_cons (ds_set (i := 4) nd rfl (Or.inl rfl) (dv_op op_powA d_pow dv_int dv_int))
      (dss_cons (ds_ret (dv_cmp (op_eqD hu64) (d_eq hK.symm) (dv_call (ok__law_told T) (L2.Room.mono (j := 7) hr (by decide)) bd.gu bd.tk hK.symm T.mg__law_told T.F__law_told.kp T.b__law_told (dl_pv (dv_var 4) (dl_pv (dv_tup (da_cons dv_int (da_cons (dv_var 4) (da_cons dv_int (da_cons dv_int da_nil))))) (dl_pv dv_int (dl_pv dv_int (dl_pv dv_int (dl_pv dv_int dl_nil))))))) (dv_frz (do_lst (da_cons (dv_op op_fdivA d_fdiv (dv_var 4) dv_int) (da_cons dv_int da_nil)))) (by rfl)))
      dss_nil)))
end
/-! ### the end -/
def txt_of {prog : Program} {w : World} {K : PySem.W.Frag} {h : Heap} {mg : Str → Option Value} (X : K.In h) (G : h.Ns mainGlobals mg)
    {C_Kernel : Addr} (aC_Kernel : PySem.W.nsIn K mainGlobals "Kernel" = some (some (.ref C_Kernel)))
    {f0 : Addr} {oc0 kV0 dc0 pm0 cd0 ct0 : Value} {od0 an0 : Option Addr} {sl0 : Array (Option Value)} (a0 : PySem.W.nsIn K mainGlobals "_law_pool" = some (some (.ref f0))) (l0 : K.lookup f0 = some ⟨oc0, od0, .func (PySem.W.fnOf "_law_pool" "_law_pool" (defArgs s__law_pool) (defBody s__law_pool) (defScope s__law_pool) .none kV0 dc0 pm0 an0 cd0 ct0), sl0⟩) (c0 : PySem.W.codeIn K cd0 "_law_pool" = true) (k0 : PySem.W.keepIn K (.ref f0) = true)
    {f1 : Addr} {oc1 kV1 dc1 pm1 cd1 ct1 : Value} {od1 an1 : Option Addr} {sl1 : Array (Option Value)} (a1 : PySem.W.nsIn K mainGlobals "_law_draw" = some (some (.ref f1))) (l1 : K.lookup f1 = some ⟨oc1, od1, .func (PySem.W.fnOf "_law_draw" "_law_draw" (defArgs s__law_draw) (defBody s__law_draw) (defScope s__law_draw) .none kV1 dc1 pm1 an1 cd1 ct1), sl1⟩) (c1 : PySem.W.codeIn K cd1 "_law_draw" = true) (k1 : PySem.W.keepIn K (.ref f1) = true)
    {f2 : Addr} {oc2 kV2 dc2 pm2 cd2 ct2 : Value} {od2 an2 : Option Addr} {sl2 : Array (Option Value)} (a2 : PySem.W.nsIn K mainGlobals "_law_common" = some (some (.ref f2))) (l2 : K.lookup f2 = some ⟨oc2, od2, .func (PySem.W.fnOf "_law_common" "_law_common" (defArgs s__law_common) (defBody s__law_common) (defScope s__law_common) .none kV2 dc2 pm2 an2 cd2 ct2), sl2⟩) (c2 : PySem.W.codeIn K cd2 "_law_common" = true) (k2 : PySem.W.keepIn K (.ref f2) = true)
    {f3 : Addr} {oc3 kV3 dc3 pm3 cd3 ct3 : Value} {od3 an3 : Option Addr} {sl3 : Array (Option Value)} (a3 : PySem.W.nsIn K mainGlobals "_law_degree" = some (some (.ref f3))) (l3 : K.lookup f3 = some ⟨oc3, od3, .func (PySem.W.fnOf "_law_degree" "_law_degree" (defArgs s__law_degree) (defBody s__law_degree) (defScope s__law_degree) .none kV3 dc3 pm3 an3 cd3 ct3), sl3⟩) (c3 : PySem.W.codeIn K cd3 "_law_degree" = true) (k3 : PySem.W.keepIn K (.ref f3) = true)
    {f4 : Addr} {oc4 kV4 dc4 pm4 cd4 ct4 : Value} {od4 an4 : Option Addr} {sl4 : Array (Option Value)} (a4 : PySem.W.nsIn K mainGlobals "_law_own" = some (some (.ref f4))) (l4 : K.lookup f4 = some ⟨oc4, od4, .func (PySem.W.fnOf "_law_own" "_law_own" (defArgs s__law_own) (defBody s__law_own) (defScope s__law_own) .none kV4 dc4 pm4 an4 cd4 ct4), sl4⟩) (c4 : PySem.W.codeIn K cd4 "_law_own" = true) (k4 : PySem.W.keepIn K (.ref f4) = true)
    {f5 : Addr} {oc5 kV5 dc5 pm5 cd5 ct5 : Value} {od5 an5 : Option Addr} {sl5 : Array (Option Value)} (a5 : PySem.W.nsIn K mainGlobals "_law_stretch" = some (some (.ref f5))) (l5 : K.lookup f5 = some ⟨oc5, od5, .func (PySem.W.fnOf "_law_stretch" "_law_stretch" (defArgs s__law_stretch) (defBody s__law_stretch) (defScope s__law_stretch) .none kV5 dc5 pm5 an5 cd5 ct5), sl5⟩) (c5 : PySem.W.codeIn K cd5 "_law_stretch" = true) (k5 : PySem.W.keepIn K (.ref f5) = true)
    {f6 : Addr} {oc6 kV6 dc6 pm6 cd6 ct6 : Value} {od6 an6 : Option Addr} {sl6 : Array (Option Value)} (a6 : PySem.W.nsIn K mainGlobals "_law_far" = some (some (.ref f6))) (l6 : K.lookup f6 = some ⟨oc6, od6, .func (PySem.W.fnOf "_law_far" "_law_far" (defArgs s__law_far) (defBody s__law_far) (defScope s__law_far) .none kV6 dc6 pm6 an6 cd6 ct6), sl6⟩) (c6 : PySem.W.codeIn K cd6 "_law_far" = true) (k6 : PySem.W.keepIn K (.ref f6) = true)
    {f7 : Addr} {oc7 kV7 dc7 pm7 cd7 ct7 : Value} {od7 an7 : Option Addr} {sl7 : Array (Option Value)} (a7 : PySem.W.nsIn K mainGlobals "_law_far_guard" = some (some (.ref f7))) (l7 : K.lookup f7 = some ⟨oc7, od7, .func (PySem.W.fnOf "_law_far_guard" "_law_far_guard" (defArgs s__law_far_guard) (defBody s__law_far_guard) (defScope s__law_far_guard) .none kV7 dc7 pm7 an7 cd7 ct7), sl7⟩) (c7 : PySem.W.codeIn K cd7 "_law_far_guard" = true) (k7 : PySem.W.keepIn K (.ref f7) = true)
    {f8 : Addr} {oc8 kV8 dc8 pm8 cd8 ct8 : Value} {od8 an8 : Option Addr} {sl8 : Array (Option Value)} (a8 : PySem.W.nsIn K mainGlobals "_law_pair" = some (some (.ref f8))) (l8 : K.lookup f8 = some ⟨oc8, od8, .func (PySem.W.fnOf "_law_pair" "_law_pair" (defArgs s__law_pair) (defBody s__law_pair) (defScope s__law_pair) .none kV8 dc8 pm8 an8 cd8 ct8), sl8⟩) (c8 : PySem.W.codeIn K cd8 "_law_pair" = true) (k8 : PySem.W.keepIn K (.ref f8) = true)
    {f9 : Addr} {oc9 kV9 dc9 pm9 cd9 ct9 : Value} {od9 an9 : Option Addr} {sl9 : Array (Option Value)} (a9 : PySem.W.nsIn K mainGlobals "check_barriers" = some (some (.ref f9))) (l9 : K.lookup f9 = some ⟨oc9, od9, .func (PySem.W.fnOf "check_barriers" "check_barriers" (defArgs s_check_barriers) (defBody s_check_barriers) (defScope s_check_barriers) .none kV9 dc9 pm9 an9 cd9 ct9), sl9⟩) (c9 : PySem.W.codeIn K cd9 "check_barriers" = true) (k9 : PySem.W.keepIn K (.ref f9) = true)
    {f10 : Addr} {oc10 kV10 dc10 pm10 cd10 ct10 : Value} {od10 an10 : Option Addr} {sl10 : Array (Option Value)} (a10 : PySem.W.nsIn K mainGlobals "is_array" = some (some (.ref f10))) (l10 : K.lookup f10 = some ⟨oc10, od10, .func (PySem.W.fnOf "is_array" "is_array" (defArgs s_is_array) (defBody s_is_array) (defScope s_is_array) .none kV10 dc10 pm10 an10 cd10 ct10), sl10⟩) (c10 : PySem.W.codeIn K cd10 "is_array" = true) (k10 : PySem.W.keepIn K (.ref f10) = true)
    {f11 : Addr} {oc11 kV11 dc11 pm11 cd11 ct11 : Value} {od11 an11 : Option Addr} {sl11 : Array (Option Value)} (a11 : PySem.W.nsIn K mainGlobals "is_guard" = some (some (.ref f11))) (l11 : K.lookup f11 = some ⟨oc11, od11, .func (PySem.W.fnOf "is_guard" "is_guard" (defArgs s_is_guard) (defBody s_is_guard) (defScope s_is_guard) .none kV11 dc11 pm11 an11 cd11 ct11), sl11⟩) (c11 : PySem.W.codeIn K cd11 "is_guard" = true) (k11 : PySem.W.keepIn K (.ref f11) = true)
    {f12 : Addr} {oc12 kV12 dc12 pm12 cd12 ct12 : Value} {od12 an12 : Option Addr} {sl12 : Array (Option Value)} (a12 : PySem.W.nsIn K mainGlobals "is_statement" = some (some (.ref f12))) (l12 : K.lookup f12 = some ⟨oc12, od12, .func (PySem.W.fnOf "is_statement" "is_statement" (defArgs s_is_statement) (defBody s_is_statement) (defScope s_is_statement) .none kV12 dc12 pm12 an12 cd12 ct12), sl12⟩) (c12 : PySem.W.codeIn K cd12 "is_statement" = true) (k12 : PySem.W.keepIn K (.ref f12) = true)
    {f13 : Addr} {oc13 kV13 dc13 pm13 cd13 ct13 : Value} {od13 an13 : Option Addr} {sl13 : Array (Option Value)} {T13 : Addr} (a13 : PySem.W.findIn K (.ref C_Kernel) "__init__" = some (some (.ref f13))) (l13 : K.lookup f13 = some ⟨oc13, od13, .func (PySem.W.fnOf "__init__" "Kernel.__init__" (defArgs s_Kernel___init__) (defBody s_Kernel___init__) (defScope s_Kernel___init__) (.ref T13) kV13 dc13 pm13 an13 cd13 ct13), sl13⟩) (c13 : PySem.W.codeIn K cd13 "Kernel.__init__" = true) (k13 : PySem.W.keepIn K (.ref f13) = true)
    {oT13 : Value} {dT13 de13 : Option Addr} {nT13 ne13 : Nat} {sT13 se13 : Array (Option Value)} {e13 : Addr} (m13 : K.lookup T13 = some ⟨oT13, dT13, .seq #[.ref e13] nT13, sT13⟩) (o13 : K.lookup e13 = some ⟨.type "tuple", de13, .seq #[] ne13, se13⟩)
    {f14 : Addr} {oc14 kV14 dc14 pm14 cd14 ct14 : Value} {od14 an14 : Option Addr} {sl14 : Array (Option Value)} (a14 : PySem.W.nsIn K mainGlobals "accesses_in" = some (some (.ref f14))) (l14 : K.lookup f14 = some ⟨oc14, od14, .func (PySem.W.fnOf "accesses_in" "accesses_in" (defArgs s_accesses_in) (defBody s_accesses_in) (defScope s_accesses_in) .none kV14 dc14 pm14 an14 cd14 ct14), sl14⟩) (c14 : PySem.W.codeIn K cd14 "accesses_in" = true) (k14 : PySem.W.keepIn K (.ref f14) = true)
    {f15 : Addr} {oc15 kV15 dc15 pm15 cd15 ct15 : Value} {od15 an15 : Option Addr} {sl15 : Array (Option Value)} (a15 : PySem.W.nsIn K mainGlobals "access_list" = some (some (.ref f15))) (l15 : K.lookup f15 = some ⟨oc15, od15, .func (PySem.W.fnOf "access_list" "access_list" (defArgs s_access_list) (defBody s_access_list) (defScope s_access_list) .none kV15 dc15 pm15 an15 cd15 ct15), sl15⟩) (c15 : PySem.W.codeIn K cd15 "access_list" = true) (k15 : PySem.W.keepIn K (.ref f15) = true)
    {f16 : Addr} {oc16 kV16 dc16 pm16 cd16 ct16 : Value} {od16 an16 : Option Addr} {sl16 : Array (Option Value)} (a16 : PySem.W.nsIn K mainGlobals "check_access" = some (some (.ref f16))) (l16 : K.lookup f16 = some ⟨oc16, od16, .func (PySem.W.fnOf "check_access" "check_access" (defArgs s_check_access) (defBody s_check_access) (defScope s_check_access) .none kV16 dc16 pm16 an16 cd16 ct16), sl16⟩) (c16 : PySem.W.codeIn K cd16 "check_access" = true) (k16 : PySem.W.keepIn K (.ref f16) = true)
    {f17 : Addr} {oc17 kV17 dc17 pm17 cd17 ct17 : Value} {od17 an17 : Option Addr} {sl17 : Array (Option Value)} (a17 : PySem.W.nsIn K mainGlobals "check_banks" = some (some (.ref f17))) (l17 : K.lookup f17 = some ⟨oc17, od17, .func (PySem.W.fnOf "check_banks" "check_banks" (defArgs s_check_banks) (defBody s_check_banks) (defScope s_check_banks) .none kV17 dc17 pm17 an17 cd17 ct17), sl17⟩) (c17 : PySem.W.codeIn K cd17 "check_banks" = true) (k17 : PySem.W.keepIn K (.ref f17) = true)
    {f18 : Addr} {oc18 kV18 dc18 pm18 cd18 ct18 : Value} {od18 an18 : Option Addr} {sl18 : Array (Option Value)} (a18 : PySem.W.nsIn K mainGlobals "check_wave" = some (some (.ref f18))) (l18 : K.lookup f18 = some ⟨oc18, od18, .func (PySem.W.fnOf "check_wave" "check_wave" (defArgs s_check_wave) (defBody s_check_wave) (defScope s_check_wave) .none kV18 dc18 pm18 an18 cd18 ct18), sl18⟩) (c18 : PySem.W.codeIn K cd18 "check_wave" = true) (k18 : PySem.W.keepIn K (.ref f18) = true)
    {f19 : Addr} {oc19 kV19 dc19 pm19 cd19 ct19 : Value} {od19 an19 : Option Addr} {sl19 : Array (Option Value)} (a19 : PySem.W.nsIn K mainGlobals "are_lonely" = some (some (.ref f19))) (l19 : K.lookup f19 = some ⟨oc19, od19, .func (PySem.W.fnOf "are_lonely" "are_lonely" (defArgs s_are_lonely) (defBody s_are_lonely) (defScope s_are_lonely) .none kV19 dc19 pm19 an19 cd19 ct19), sl19⟩) (c19 : PySem.W.codeIn K cd19 "are_lonely" = true) (k19 : PySem.W.keepIn K (.ref f19) = true)
    {f20 : Addr} {oc20 kV20 dc20 pm20 cd20 ct20 : Value} {od20 an20 : Option Addr} {sl20 : Array (Option Value)} (a20 : PySem.W.nsIn K mainGlobals "bezout" = some (some (.ref f20))) (l20 : K.lookup f20 = some ⟨oc20, od20, .func (PySem.W.fnOf "bezout" "bezout" (defArgs s_bezout) (defBody s_bezout) (defScope s_bezout) .none kV20 dc20 pm20 an20 cd20 ct20), sl20⟩) (c20 : PySem.W.codeIn K cd20 "bezout" = true) (k20 : PySem.W.keepIn K (.ref f20) = true)
    {f21 : Addr} {oc21 kV21 dc21 pm21 cd21 ct21 : Value} {od21 an21 : Option Addr} {sl21 : Array (Option Value)} (a21 : PySem.W.nsIn K mainGlobals "different_banks" = some (some (.ref f21))) (l21 : K.lookup f21 = some ⟨oc21, od21, .func (PySem.W.fnOf "different_banks" "different_banks" (defArgs s_different_banks) (defBody s_different_banks) (defScope s_different_banks) .none kV21 dc21 pm21 an21 cd21 ct21), sl21⟩) (c21 : PySem.W.codeIn K cd21 "different_banks" = true) (k21 : PySem.W.keepIn K (.ref f21) = true)
    {f22 : Addr} {oc22 kV22 dc22 pm22 cd22 ct22 : Value} {od22 an22 : Option Addr} {sl22 : Array (Option Value)} (a22 : PySem.W.nsIn K mainGlobals "degree_for" = some (some (.ref f22))) (l22 : K.lookup f22 = some ⟨oc22, od22, .func (PySem.W.fnOf "degree_for" "degree_for" (defArgs s_degree_for) (defBody s_degree_for) (defScope s_degree_for) .none kV22 dc22 pm22 an22 cd22 ct22), sl22⟩) (c22 : PySem.W.codeIn K cd22 "degree_for" = true) (k22 : PySem.W.keepIn K (.ref f22) = true)
    {f23 : Addr} {oc23 kV23 dc23 pm23 cd23 ct23 : Value} {od23 an23 : Option Addr} {sl23 : Array (Option Value)} (a23 : PySem.W.nsIn K mainGlobals "first_of" = some (some (.ref f23))) (l23 : K.lookup f23 = some ⟨oc23, od23, .func (PySem.W.fnOf "first_of" "first_of" (defArgs s_first_of) (defBody s_first_of) (defScope s_first_of) .none kV23 dc23 pm23 an23 cd23 ct23), sl23⟩) (c23 : PySem.W.codeIn K cd23 "first_of" = true) (k23 : PySem.W.keepIn K (.ref f23) = true)
    {f24 : Addr} {oc24 kV24 dc24 pm24 cd24 ct24 : Value} {od24 an24 : Option Addr} {sl24 : Array (Option Value)} (a24 : PySem.W.nsIn K mainGlobals "lanes_of" = some (some (.ref f24))) (l24 : K.lookup f24 = some ⟨oc24, od24, .func (PySem.W.fnOf "lanes_of" "lanes_of" (defArgs s_lanes_of) (defBody s_lanes_of) (defScope s_lanes_of) .none kV24 dc24 pm24 an24 cd24 ct24), sl24⟩) (c24 : PySem.W.codeIn K cd24 "lanes_of" = true) (k24 : PySem.W.keepIn K (.ref f24) = true)
    {f25 : Addr} {oc25 kV25 dc25 pm25 cd25 ct25 : Value} {od25 an25 : Option Addr} {sl25 : Array (Option Value)} (a25 : PySem.W.nsIn K mainGlobals "part_in" = some (some (.ref f25))) (l25 : K.lookup f25 = some ⟨oc25, od25, .func (PySem.W.fnOf "part_in" "part_in" (defArgs s_part_in) (defBody s_part_in) (defScope s_part_in) .none kV25 dc25 pm25 an25 cd25 ct25), sl25⟩) (c25 : PySem.W.codeIn K cd25 "part_in" = true) (k25 : PySem.W.keepIn K (.ref f25) = true)
    {f26 : Addr} {oc26 kV26 dc26 pm26 cd26 ct26 : Value} {od26 an26 : Option Addr} {sl26 : Array (Option Value)} (a26 : PySem.W.nsIn K mainGlobals "in_wave" = some (some (.ref f26))) (l26 : K.lookup f26 = some ⟨oc26, od26, .func (PySem.W.fnOf "in_wave" "in_wave" (defArgs s_in_wave) (defBody s_in_wave) (defScope s_in_wave) .none kV26 dc26 pm26 an26 cd26 ct26), sl26⟩) (c26 : PySem.W.codeIn K cd26 "in_wave" = true) (k26 : PySem.W.keepIn K (.ref f26) = true)
    {f27 : Addr} {oc27 kV27 dc27 pm27 cd27 ct27 : Value} {od27 an27 : Option Addr} {sl27 : Array (Option Value)} (a27 : PySem.W.nsIn K mainGlobals "lane_at" = some (some (.ref f27))) (l27 : K.lookup f27 = some ⟨oc27, od27, .func (PySem.W.fnOf "lane_at" "lane_at" (defArgs s_lane_at) (defBody s_lane_at) (defScope s_lane_at) .none kV27 dc27 pm27 an27 cd27 ct27), sl27⟩) (c27 : PySem.W.codeIn K cd27 "lane_at" = true) (k27 : PySem.W.keepIn K (.ref f27) = true)
    {f28 : Addr} {oc28 kV28 dc28 pm28 cd28 ct28 : Value} {od28 an28 : Option Addr} {sl28 : Array (Option Value)} (a28 : PySem.W.nsIn K mainGlobals "last_of" = some (some (.ref f28))) (l28 : K.lookup f28 = some ⟨oc28, od28, .func (PySem.W.fnOf "last_of" "last_of" (defArgs s_last_of) (defBody s_last_of) (defScope s_last_of) .none kV28 dc28 pm28 an28 cd28 ct28), sl28⟩) (c28 : PySem.W.codeIn K cd28 "last_of" = true) (k28 : PySem.W.keepIn K (.ref f28) = true)
    {f29 : Addr} {oc29 kV29 dc29 pm29 cd29 ct29 : Value} {od29 an29 : Option Addr} {sl29 : Array (Option Value)} (a29 : PySem.W.nsIn K mainGlobals "waves_of" = some (some (.ref f29))) (l29 : K.lookup f29 = some ⟨oc29, od29, .func (PySem.W.fnOf "waves_of" "waves_of" (defArgs s_waves_of) (defBody s_waves_of) (defScope s_waves_of) .none kV29 dc29 pm29 an29 cd29 ct29), sl29⟩) (c29 : PySem.W.codeIn K cd29 "waves_of" = true) (k29 : PySem.W.keepIn K (.ref f29) = true)
    {f30 : Addr} {oc30 kV30 dc30 pm30 cd30 ct30 : Value} {od30 an30 : Option Addr} {sl30 : Array (Option Value)} (a30 : PySem.W.nsIn K mainGlobals "waves_with" = some (some (.ref f30))) (l30 : K.lookup f30 = some ⟨oc30, od30, .func (PySem.W.fnOf "waves_with" "waves_with" (defArgs s_waves_with) (defBody s_waves_with) (defScope s_waves_with) .none kV30 dc30 pm30 an30 cd30 ct30), sl30⟩) (c30 : PySem.W.codeIn K cd30 "waves_with" = true) (k30 : PySem.W.keepIn K (.ref f30) = true)
    {f31 : Addr} {oc31 kV31 dc31 pm31 cd31 ct31 : Value} {od31 an31 : Option Addr} {sl31 : Array (Option Value)} (a31 : PySem.W.nsIn K mainGlobals "degrees_of" = some (some (.ref f31))) (l31 : K.lookup f31 = some ⟨oc31, od31, .func (PySem.W.fnOf "degrees_of" "degrees_of" (defArgs s_degrees_of) (defBody s_degrees_of) (defScope s_degrees_of) .none kV31 dc31 pm31 an31 cd31 ct31), sl31⟩) (c31 : PySem.W.codeIn K cd31 "degrees_of" = true) (k31 : PySem.W.keepIn K (.ref f31) = true)
    {f32 : Addr} {oc32 kV32 dc32 pm32 cd32 ct32 : Value} {od32 an32 : Option Addr} {sl32 : Array (Option Value)} (a32 : PySem.W.nsIn K mainGlobals "greatest_degree" = some (some (.ref f32))) (l32 : K.lookup f32 = some ⟨oc32, od32, .func (PySem.W.fnOf "greatest_degree" "greatest_degree" (defArgs s_greatest_degree) (defBody s_greatest_degree) (defScope s_greatest_degree) .none kV32 dc32 pm32 an32 cd32 ct32), sl32⟩) (c32 : PySem.W.codeIn K cd32 "greatest_degree" = true) (k32 : PySem.W.keepIn K (.ref f32) = true)
    {f33 : Addr} {oc33 kV33 dc33 pm33 cd33 ct33 : Value} {od33 an33 : Option Addr} {sl33 : Array (Option Value)} (a33 : PySem.W.nsIn K mainGlobals "total_degree" = some (some (.ref f33))) (l33 : K.lookup f33 = some ⟨oc33, od33, .func (PySem.W.fnOf "total_degree" "total_degree" (defArgs s_total_degree) (defBody s_total_degree) (defScope s_total_degree) .none kV33 dc33 pm33 an33 cd33 ct33), sl33⟩) (c33 : PySem.W.codeIn K cd33 "total_degree" = true) (k33 : PySem.W.keepIn K (.ref f33) = true)
    {f34 : Addr} {oc34 kV34 dc34 pm34 cd34 ct34 : Value} {od34 an34 : Option Addr} {sl34 : Array (Option Value)} (a34 : PySem.W.nsIn K mainGlobals "_law_told" = some (some (.ref f34))) (l34 : K.lookup f34 = some ⟨oc34, od34, .func (PySem.W.fnOf "_law_told" "_law_told" (defArgs s__law_told) (defBody s__law_told) (defScope s__law_told) .none kV34 dc34 pm34 an34 cd34 ct34), sl34⟩) (c34 : PySem.W.codeIn K cd34 "_law_told" = true) (k34 : PySem.W.keepIn K (.ref f34) = true)
    {f35 : Addr} {oc35 kV35 dc35 pm35 cd35 ct35 : Value} {od35 an35 : Option Addr} {sl35 : Array (Option Value)} (a35 : PySem.W.nsIn K mainGlobals "_law_right" = some (some (.ref f35))) (l35 : K.lookup f35 = some ⟨oc35, od35, .func (PySem.W.fnOf "_law_right" "_law_right" (defArgs s__law_right) (defBody s__law_right) (defScope s__law_right) .none kV35 dc35 pm35 an35 cd35 ct35), sl35⟩) (c35 : PySem.W.codeIn K cd35 "_law_right" = true) (k35 : PySem.W.keepIn K (.ref f35) = true)
    {f36 : Addr} {oc36 kV36 dc36 pm36 cd36 ct36 : Value} {od36 an36 : Option Addr} {sl36 : Array (Option Value)} (a36 : PySem.W.nsIn K mainGlobals "law" = some (some (.ref f36))) (l36 : K.lookup f36 = some ⟨oc36, od36, .func (PySem.W.fnOf "law" "law" (defArgs s_law) (defBody s_law) (defScope s_law) .none kV36 dc36 pm36 an36 cd36 ct36), sl36⟩) (c36 : PySem.W.codeIn K cd36 "law" = true) (k36 : PySem.W.keepIn K (.ref f36) = true)
    (z_abs : PySem.W.nsIn K mainGlobals "abs" = some none)
    (z_all : PySem.W.nsIn K mainGlobals "all" = some none)
    (z_enumerate : PySem.W.nsIn K mainGlobals "enumerate" = some none)
    (z_len : PySem.W.nsIn K mainGlobals "len" = some none)
    (z_max : PySem.W.nsIn K mainGlobals "max" = some none)
    (z_min : PySem.W.nsIn K mainGlobals "min" = some none)
    (z_range : PySem.W.nsIn K mainGlobals "range" = some none)
    (z_set : PySem.W.nsIn K mainGlobals "set" = some none)
    (z_sorted : PySem.W.nsIn K mainGlobals "sorted" = some none)
    (z_sum : PySem.W.nsIn K mainGlobals "sum" = some none)
    (z_tuple : PySem.W.nsIn K mainGlobals "tuple" = some none)
    {tk_MOST_LETTERS : Tok} (n_MOST_LETTERS : PySem.W.nsIn K mainGlobals "MOST_LETTERS" = some (some (.int 8 tk_MOST_LETTERS)))
    {tk_LETTERS : Tok} (n_LETTERS : PySem.W.nsIn K mainGlobals "LETTERS" = some (some (.str "abcdefghijklmnopqrstuvwxyz" tk_LETTERS)))
    {tk_READ : Tok} (n_READ : PySem.W.nsIn K mainGlobals "READ" = some (some (.str "read" tk_READ)))
    {tk_WRITE : Tok} (n_WRITE : PySem.W.nsIn K mainGlobals "WRITE" = some (some (.str "write" tk_WRITE)))
    {tk_MOST_BANKS : Tok} (n_MOST_BANKS : PySem.W.nsIn K mainGlobals "MOST_BANKS" = some (some (.int 4096 tk_MOST_BANKS)))
    {tk_MOST_WAVE : Tok} (n_MOST_WAVE : PySem.W.nsIn K mainGlobals "MOST_WAVE" = some (some (.int 32 tk_MOST_WAVE)))
    (pg_Kernel : PySem.W.plainGet K C_Kernel Str.empty = true)
    (hd_Kernel : PySem.W.hasDictIn K C_Kernel = true)
    (po_Kernel : PySem.W.plainOver K C_Kernel = true)
    (sa_Kernel : PySem.W.findIn K (.ref C_Kernel) "__setattr__" = some (some (.builtin "object.__setattr__")))
    (mi_Kernel : PySem.W.makesIn K C_Kernel = true)
    (kc_Kernel : PySem.W.keepIn K (.ref C_Kernel) = true)
    (fi_Kernel : PySem.W.isFn K (.ref f13) = true)
    (na_Kernel_lane_count : PySem.W.findIn K (.ref C_Kernel) "lane_count" = some none)
    (na_Kernel_kept_statements : PySem.W.findIn K (.ref C_Kernel) "kept_statements" = some none)
    (na_Kernel_kept_barriers : PySem.W.findIn K (.ref C_Kernel) "kept_barriers" = some none)
    {p_ITEMS : Addr} {es_ITEMS : Array DictEntry} {n_ITEMS : Nat} (aD_ITEMS : PySem.W.nsIn K mainGlobals "ITEMS" = some (some (.ref p_ITEMS))) (lD_ITEMS : K.lookup p_ITEMS = some ⟨.type "dict", none, .dict es_ITEMS n_ITEMS, #[]⟩) (tD_ITEMS : es_ITEMS.toList.map He.keyOf = He.keysIn w.params ["put", "move", "sum"]) (wD_ITEMS : (p_ITEMS == sysModules) = false)
    {tk_ITEMS_0 : Tok} (kD_ITEMS_0 : PySem.W.nsIn K p_ITEMS "put" = some (some (.int 7 tk_ITEMS_0)))
    {tk_ITEMS_1 : Tok} (kD_ITEMS_1 : PySem.W.nsIn K p_ITEMS "move" = some (some (.int 9 tk_ITEMS_1)))
    {tk_ITEMS_2 : Tok} (kD_ITEMS_2 : PySem.W.nsIn K p_ITEMS "sum" = some (some (.int 11 tk_ITEMS_2)))
    {p_PLACES : Addr} {es_PLACES : Array DictEntry} {n_PLACES : Nat} (aD_PLACES : PySem.W.nsIn K mainGlobals "PLACES" = some (some (.ref p_PLACES))) (lD_PLACES : K.lookup p_PLACES = some ⟨.type "dict", none, .dict es_PLACES n_PLACES, #[]⟩) (tD_PLACES : es_PLACES.toList.map He.keyOf = He.keysIn w.params ["put", "move", "sum"]) (wD_PLACES : (p_PLACES == sysModules) = false)
    {r_PLACES_0 : Addr} {od_PLACES_0 : Option Addr} {it_PLACES_0 : Array Value} {nn_PLACES_0 : Nat} {sl_PLACES_0 : Array (Option Value)} (kD_PLACES_0 : PySem.W.nsIn K p_PLACES "put" = some (some (.ref r_PLACES_0))) (uD_PLACES_0 : K.lookup r_PLACES_0 = some ⟨.type "tuple", od_PLACES_0, .seq it_PLACES_0 nn_PLACES_0, sl_PLACES_0⟩) (sD_PLACES_0 : it_PLACES_0.size ≤ sizeLine) (vD_PLACES_0 : Vals (([2] : List Int).map V.int) it_PLACES_0.toList)
    {r_PLACES_1 : Addr} {od_PLACES_1 : Option Addr} {it_PLACES_1 : Array Value} {nn_PLACES_1 : Nat} {sl_PLACES_1 : Array (Option Value)} (kD_PLACES_1 : PySem.W.nsIn K p_PLACES "move" = some (some (.ref r_PLACES_1))) (uD_PLACES_1 : K.lookup r_PLACES_1 = some ⟨.type "tuple", od_PLACES_1, .seq it_PLACES_1 nn_PLACES_1, sl_PLACES_1⟩) (sD_PLACES_1 : it_PLACES_1.size ≤ sizeLine) (vD_PLACES_1 : Vals (([2, 5] : List Int).map V.int) it_PLACES_1.toList)
    {r_PLACES_2 : Addr} {od_PLACES_2 : Option Addr} {it_PLACES_2 : Array Value} {nn_PLACES_2 : Nat} {sl_PLACES_2 : Array (Option Value)} (kD_PLACES_2 : PySem.W.nsIn K p_PLACES "sum" = some (some (.ref r_PLACES_2))) (uD_PLACES_2 : K.lookup r_PLACES_2 = some ⟨.type "tuple", od_PLACES_2, .seq it_PLACES_2 nn_PLACES_2, sl_PLACES_2⟩) (sD_PLACES_2 : it_PLACES_2.size ≤ sizeLine) (vD_PLACES_2 : Vals (([2, 5, 8] : List Int).map V.int) it_PLACES_2.toList) : Txt prog w K mg (PL.clT [] (PXE.clOf K)) :=
  ⟨f0, _, fun_mk (st := s__law_pool) l0 c0 k0, (fun_mk (st := s__law_pool) l0 c0 k0).binds (ps := ["script", "at"]) (fun _ _ _ _ _ _ us hl => match us, hl with | [_, _], _ => rfl), PySem.W.mg_of X G a0,
    f1, _, fun_mk (st := s__law_draw) l1 c1 k1, (fun_mk (st := s__law_draw) l1 c1 k1).binds (ps := ["pool", "many"]) (fun _ _ _ _ _ _ us hl => match us, hl with | [_, _], _ => rfl), PySem.W.mg_of X G a1,
    f2, _, fun_mk (st := s__law_common) l2 c2 k2, (fun_mk (st := s__law_common) l2 c2 k2).binds (ps := ["one", "other"]) (fun _ _ _ _ _ _ us hl => match us, hl with | [_, _], _ => rfl), PySem.W.mg_of X G a2,
    f3, _, fun_mk (st := s__law_degree) l3 c3 k3, (fun_mk (st := s__law_degree) l3 c3 k3).binds (ps := ["cells", "banks_here"]) (fun _ _ _ _ _ _ us hl => match us, hl with | [_, _], _ => rfl), PySem.W.mg_of X G a3,
    f4, _, fun_mk (st := s__law_own) l4 c4 k4, (fun_mk (st := s__law_own) l4 c4 k4).binds (ps := ["guard"]) (fun _ _ _ _ _ _ us hl => match us, hl with | [_], _ => rfl), PySem.W.mg_of X G a4,
    f5, _, fun_mk (st := s__law_stretch) l5 c5 k5, (fun_mk (st := s__law_stretch) l5 c5 k5).binds (ps := ["guard", "a", "b", "span", "far", "banks_here"]) (fun _ _ _ _ _ _ us hl => match us, hl with | [_, _, _, _, _, _], _ => rfl), PySem.W.mg_of X G a5,
    f6, _, fun_mk (st := s__law_far) l6 c6 k6, (fun_mk (st := s__law_far) l6 c6 k6).binds (ps := ["guard", "a", "b", "span", "far", "banks_here"]) (fun _ _ _ _ _ _ us hl => match us, hl with | [_, _, _, _, _, _], _ => rfl), PySem.W.mg_of X G a6,
    f7, _, fun_mk (st := s__law_far_guard) l7 c7 k7, (fun_mk (st := s__law_far_guard) l7 c7 k7).binds (ps := ["pool"]) (fun _ _ _ _ _ _ us hl => match us, hl with | [_], _ => rfl), PySem.W.mg_of X G a7,
    f8, _, fun_mk (st := s__law_pair) l8 c8 k8, (fun_mk (st := s__law_pair) l8 c8 k8).binds (ps := ["pool", "most"]) (fun _ _ _ _ _ _ us hl => match us, hl with | [_, _], _ => rfl), PySem.W.mg_of X G a8,
    f9, _, fun_mk (st := s_check_barriers) l9 c9 k9, (fun_mk (st := s_check_barriers) l9 c9 k9).binds (ps := ["barriers", "size"]) (fun _ _ _ _ _ _ us hl => match us, hl with | [_, _], _ => rfl), PySem.W.mg_of X G a9,
    f10, _, fun_mk (st := s_is_array) l10 c10 k10, (fun_mk (st := s_is_array) l10 c10 k10).binds (ps := ["name"]) (fun _ _ _ _ _ _ us hl => match us, hl with | [_], _ => rfl), PySem.W.mg_of X G a10,
    f11, _, fun_mk (st := s_is_guard) l11 c11 k11, (fun_mk (st := s_is_guard) l11 c11 k11).binds (ps := ["guard"]) (fun _ _ _ _ _ _ us hl => match us, hl with | [_], _ => rfl), PySem.W.mg_of X G a11,
    f12, _, fun_mk (st := s_is_statement) l12 c12 k12, (fun_mk (st := s_is_statement) l12 c12 k12).binds (ps := ["statement", "lanes"]) (fun _ _ _ _ _ _ us hl => match us, hl with | [_, _], _ => rfl), PySem.W.mg_of X G a12,
    f13, _, funX_mk (st := s_Kernel___init__) l13 c13 k13, ⟨_, binds_d1 (f := 0) (oc := .none) (od := none) (osl := #[]) (m := 3) (ps := ["self", "lanes", "statements", "barriers"]) m13 rfl (fun us hl => match us, hl with | [_, _, _], _ => ⟨_, rfl, rfl⟩), KvV.nums (ns := []) o13 rfl rfl (by decide) .nil⟩,
    f14, _, fun_mk (st := s_accesses_in) l14 c14 k14, (fun_mk (st := s_accesses_in) l14 c14 k14).binds (ps := ["number", "statement"]) (fun _ _ _ _ _ _ us hl => match us, hl with | [_, _], _ => rfl), PySem.W.mg_of X G a14,
    f15, _, fun_mk (st := s_access_list) l15 c15 k15, (fun_mk (st := s_access_list) l15 c15 k15).binds (ps := ["kernel"]) (fun _ _ _ _ _ _ us hl => match us, hl with | [_], _ => rfl), PySem.W.mg_of X G a15,
    f16, _, fun_mk (st := s_check_access) l16 c16 k16, (fun_mk (st := s_check_access) l16 c16 k16).binds (ps := ["kernel", "number"]) (fun _ _ _ _ _ _ us hl => match us, hl with | [_, _], _ => rfl), PySem.W.mg_of X G a16,
    f17, _, fun_mk (st := s_check_banks) l17 c17 k17, (fun_mk (st := s_check_banks) l17 c17 k17).binds (ps := ["banks"]) (fun _ _ _ _ _ _ us hl => match us, hl with | [_], _ => rfl), PySem.W.mg_of X G a17,
    f18, _, fun_mk (st := s_check_wave) l18 c18 k18, (fun_mk (st := s_check_wave) l18 c18 k18).binds (ps := ["wave"]) (fun _ _ _ _ _ _ us hl => match us, hl with | [_], _ => rfl), PySem.W.mg_of X G a18,
    f19, _, fun_mk (st := s_are_lonely) l19 c19 k19, (fun_mk (st := s_are_lonely) l19 c19 k19).binds (ps := ["guard", "wave"]) (fun _ _ _ _ _ _ us hl => match us, hl with | [_, _], _ => rfl), PySem.W.mg_of X G a19,
    f20, _, fun_mk (st := s_bezout) l20 c20 k20, (fun_mk (st := s_bezout) l20 c20 k20).binds (ps := ["one", "other"]) (fun _ _ _ _ _ _ us hl => match us, hl with | [_, _], _ => rfl), PySem.W.mg_of X G a20,
    f21, _, fun_mk (st := s_different_banks) l21 c21 k21, (fun_mk (st := s_different_banks) l21 c21 k21).binds (ps := ["by", "banks"]) (fun _ _ _ _ _ _ us hl => match us, hl with | [_, _], _ => rfl), PySem.W.mg_of X G a21,
    f22, _, fun_mk (st := s_degree_for) l22 c22 k22, (fun_mk (st := s_degree_for) l22 c22 k22).binds (ps := ["many", "by", "banks"]) (fun _ _ _ _ _ _ us hl => match us, hl with | [_, _, _], _ => rfl), PySem.W.mg_of X G a22,
    f23, _, fun_mk (st := s_first_of) l23 c23 k23, (fun_mk (st := s_first_of) l23 c23 k23).binds (ps := ["guard"]) (fun _ _ _ _ _ _ us hl => match us, hl with | [_], _ => rfl), PySem.W.mg_of X G a23,
    f24, _, fun_mk (st := s_lanes_of) l24 c24 k24, (fun_mk (st := s_lanes_of) l24 c24 k24).binds (ps := ["guard"]) (fun _ _ _ _ _ _ us hl => match us, hl with | [_], _ => rfl), PySem.W.mg_of X G a24,
    f25, _, fun_mk (st := s_part_in) l25 c25 k25, (fun_mk (st := s_part_in) l25 c25 k25).binds (ps := ["kernel", "access"]) (fun _ _ _ _ _ _ us hl => match us, hl with | [_, _], _ => rfl), PySem.W.mg_of X G a25,
    f26, _, fun_mk (st := s_in_wave) l26 c26 k26, (fun_mk (st := s_in_wave) l26 c26 k26).binds (ps := ["guard", "wave", "number"]) (fun _ _ _ _ _ _ us hl => match us, hl with | [_, _, _], _ => rfl), PySem.W.mg_of X G a26,
    f27, _, fun_mk (st := s_lane_at) l27 c27 k27, (fun_mk (st := s_lane_at) l27 c27 k27).binds (ps := ["guard", "number"]) (fun _ _ _ _ _ _ us hl => match us, hl with | [_, _], _ => rfl), PySem.W.mg_of X G a27,
    f28, _, fun_mk (st := s_last_of) l28 c28 k28, (fun_mk (st := s_last_of) l28 c28 k28).binds (ps := ["guard"]) (fun _ _ _ _ _ _ us hl => match us, hl with | [_], _ => rfl), PySem.W.mg_of X G a28,
    f29, _, fun_mk (st := s_waves_of) l29 c29 k29, (fun_mk (st := s_waves_of) l29 c29 k29).binds (ps := ["guard", "wave"]) (fun _ _ _ _ _ _ us hl => match us, hl with | [_, _], _ => rfl), PySem.W.mg_of X G a29,
    f30, _, fun_mk (st := s_waves_with) l30 c30 k30, (fun_mk (st := s_waves_with) l30 c30 k30).binds (ps := ["guard", "wave"]) (fun _ _ _ _ _ _ us hl => match us, hl with | [_, _], _ => rfl), PySem.W.mg_of X G a30,
    f31, _, fun_mk (st := s_degrees_of) l31 c31 k31, (fun_mk (st := s_degrees_of) l31 c31 k31).binds (ps := ["kernel", "access", "wave", "banks"]) (fun _ _ _ _ _ _ us hl => match us, hl with | [_, _, _, _], _ => rfl), PySem.W.mg_of X G a31,
    f32, _, fun_mk (st := s_greatest_degree) l32 c32 k32, (fun_mk (st := s_greatest_degree) l32 c32 k32).binds (ps := ["kernel", "access", "wave", "banks"]) (fun _ _ _ _ _ _ us hl => match us, hl with | [_, _, _, _], _ => rfl), PySem.W.mg_of X G a32,
    f33, _, fun_mk (st := s_total_degree) l33 c33 k33, (fun_mk (st := s_total_degree) l33 c33 k33).binds (ps := ["kernel", "access", "wave", "banks"]) (fun _ _ _ _ _ _ us hl => match us, hl with | [_, _, _, _], _ => rfl), PySem.W.mg_of X G a33,
    f34, _, fun_mk (st := s__law_told) l34 c34 k34, (fun_mk (st := s__law_told) l34 c34 k34).binds (ps := ["total", "guard", "a", "b", "span", "many"]) (fun _ _ _ _ _ _ us hl => match us, hl with | [_, _, _, _, _, _], _ => rfl), PySem.W.mg_of X G a34,
    f35, _, fun_mk (st := s__law_right) l35 c35 k35, (fun_mk (st := s__law_right) l35 c35 k35).binds (ps := ["pool"]) (fun _ _ _ _ _ _ us hl => match us, hl with | [_], _ => rfl), PySem.W.mg_of X G a35,
    f36, _, fun_mk (st := s_law) l36 c36 k36, (fun_mk (st := s_law) l36 c36 k36).binds (ps := ["script"]) (fun _ _ _ _ _ _ us hl => match us, hl with | [_], _ => rfl), PySem.W.mg_of X G a36,
    PySem.W.mg_none_of X G z_abs,
    PySem.W.mg_none_of X G z_all,
    PySem.W.mg_none_of X G z_enumerate,
    PySem.W.mg_none_of X G z_len,
    PySem.W.mg_none_of X G z_max,
    PySem.W.mg_none_of X G z_min,
    PySem.W.mg_none_of X G z_range,
    PySem.W.mg_none_of X G z_set,
    PySem.W.mg_none_of X G z_sorted,
    PySem.W.mg_none_of X G z_sum,
    PySem.W.mg_none_of X G z_tuple,
    ⟨_, PySem.W.mg_of X G n_MOST_LETTERS, ⟨_, rfl⟩⟩,
    ⟨_, PySem.W.mg_of X G n_LETTERS, ⟨_, rfl⟩⟩,
    ⟨_, PySem.W.mg_of X G n_READ, ⟨_, rfl⟩⟩,
    ⟨_, PySem.W.mg_of X G n_WRITE, ⟨_, rfl⟩⟩,
    ⟨_, PySem.W.mg_of X G n_MOST_BANKS, ⟨_, rfl⟩⟩,
    ⟨_, PySem.W.mg_of X G n_MOST_WAVE, ⟨_, rfl⟩⟩,
    (by rw [PL.clT_at aC_Kernel]; exact PySem.W.mg_of X G aC_Kernel),
    (by rw [PL.clT_at aC_Kernel]; exact ⟨pg_Kernel, hd_Kernel, po_Kernel, sa_Kernel⟩),
    (by rw [PL.clT_at aC_Kernel]; exact ⟨mi_Kernel, a13, fi_Kernel, kc_Kernel⟩),
    (by rw [PL.clT_at aC_Kernel]; exact na_Kernel_lane_count),
    (by rw [PL.clT_at aC_Kernel]; exact na_Kernel_kept_statements),
    (by rw [PL.clT_at aC_Kernel]; exact na_Kernel_kept_barriers),
    dct_mk (PySem.W.mg_of X G aD_ITEMS) lD_ITEMS tD_ITEMS wD_ITEMS (.cons kD_ITEMS_0 (.int _ _) (.cons kD_ITEMS_1 (.int _ _) (.cons kD_ITEMS_2 (.int _ _) .nil))),
    dct_mk (PySem.W.mg_of X G aD_PLACES) lD_PLACES tD_PLACES wD_PLACES (.cons kD_PLACES_0 (KvV.nums (ns := [2]) uD_PLACES_0 rfl rfl sD_PLACES_0 vD_PLACES_0) (.cons kD_PLACES_1 (KvV.nums (ns := [2, 5]) uD_PLACES_1 rfl rfl sD_PLACES_1 vD_PLACES_1) (.cons kD_PLACES_2 (KvV.nums (ns := [2, 5, 8]) uD_PLACES_2 rfl rfl sD_PLACES_2 vD_PLACES_2) .nil)))⟩
theorem all_mk {l : PySem.W.OpenLaw} {w : World} {K : PySem.W.Frag} {h : Heap} {mg : Str → Option Value} {fa : Addr} (X : K.In h) (G : h.Ns mainGlobals mg) (hfa : mg "law" = some (.ref fa))
    {C_Kernel : Addr} (aC_Kernel : PySem.W.nsIn K mainGlobals "Kernel" = some (some (.ref C_Kernel)))
    {f0 : Addr} {oc0 kV0 dc0 pm0 cd0 ct0 : Value} {od0 an0 : Option Addr} {sl0 : Array (Option Value)} (a0 : PySem.W.nsIn K mainGlobals "_law_pool" = some (some (.ref f0))) (l0 : K.lookup f0 = some ⟨oc0, od0, .func (PySem.W.fnOf "_law_pool" "_law_pool" (defArgs s__law_pool) (defBody s__law_pool) (defScope s__law_pool) .none kV0 dc0 pm0 an0 cd0 ct0), sl0⟩) (c0 : PySem.W.codeIn K cd0 "_law_pool" = true) (k0 : PySem.W.keepIn K (.ref f0) = true)
    {f1 : Addr} {oc1 kV1 dc1 pm1 cd1 ct1 : Value} {od1 an1 : Option Addr} {sl1 : Array (Option Value)} (a1 : PySem.W.nsIn K mainGlobals "_law_draw" = some (some (.ref f1))) (l1 : K.lookup f1 = some ⟨oc1, od1, .func (PySem.W.fnOf "_law_draw" "_law_draw" (defArgs s__law_draw) (defBody s__law_draw) (defScope s__law_draw) .none kV1 dc1 pm1 an1 cd1 ct1), sl1⟩) (c1 : PySem.W.codeIn K cd1 "_law_draw" = true) (k1 : PySem.W.keepIn K (.ref f1) = true)
    {f2 : Addr} {oc2 kV2 dc2 pm2 cd2 ct2 : Value} {od2 an2 : Option Addr} {sl2 : Array (Option Value)} (a2 : PySem.W.nsIn K mainGlobals "_law_common" = some (some (.ref f2))) (l2 : K.lookup f2 = some ⟨oc2, od2, .func (PySem.W.fnOf "_law_common" "_law_common" (defArgs s__law_common) (defBody s__law_common) (defScope s__law_common) .none kV2 dc2 pm2 an2 cd2 ct2), sl2⟩) (c2 : PySem.W.codeIn K cd2 "_law_common" = true) (k2 : PySem.W.keepIn K (.ref f2) = true)
    {f3 : Addr} {oc3 kV3 dc3 pm3 cd3 ct3 : Value} {od3 an3 : Option Addr} {sl3 : Array (Option Value)} (a3 : PySem.W.nsIn K mainGlobals "_law_degree" = some (some (.ref f3))) (l3 : K.lookup f3 = some ⟨oc3, od3, .func (PySem.W.fnOf "_law_degree" "_law_degree" (defArgs s__law_degree) (defBody s__law_degree) (defScope s__law_degree) .none kV3 dc3 pm3 an3 cd3 ct3), sl3⟩) (c3 : PySem.W.codeIn K cd3 "_law_degree" = true) (k3 : PySem.W.keepIn K (.ref f3) = true)
    {f4 : Addr} {oc4 kV4 dc4 pm4 cd4 ct4 : Value} {od4 an4 : Option Addr} {sl4 : Array (Option Value)} (a4 : PySem.W.nsIn K mainGlobals "_law_own" = some (some (.ref f4))) (l4 : K.lookup f4 = some ⟨oc4, od4, .func (PySem.W.fnOf "_law_own" "_law_own" (defArgs s__law_own) (defBody s__law_own) (defScope s__law_own) .none kV4 dc4 pm4 an4 cd4 ct4), sl4⟩) (c4 : PySem.W.codeIn K cd4 "_law_own" = true) (k4 : PySem.W.keepIn K (.ref f4) = true)
    {f5 : Addr} {oc5 kV5 dc5 pm5 cd5 ct5 : Value} {od5 an5 : Option Addr} {sl5 : Array (Option Value)} (a5 : PySem.W.nsIn K mainGlobals "_law_stretch" = some (some (.ref f5))) (l5 : K.lookup f5 = some ⟨oc5, od5, .func (PySem.W.fnOf "_law_stretch" "_law_stretch" (defArgs s__law_stretch) (defBody s__law_stretch) (defScope s__law_stretch) .none kV5 dc5 pm5 an5 cd5 ct5), sl5⟩) (c5 : PySem.W.codeIn K cd5 "_law_stretch" = true) (k5 : PySem.W.keepIn K (.ref f5) = true)
    {f6 : Addr} {oc6 kV6 dc6 pm6 cd6 ct6 : Value} {od6 an6 : Option Addr} {sl6 : Array (Option Value)} (a6 : PySem.W.nsIn K mainGlobals "_law_far" = some (some (.ref f6))) (l6 : K.lookup f6 = some ⟨oc6, od6, .func (PySem.W.fnOf "_law_far" "_law_far" (defArgs s__law_far) (defBody s__law_far) (defScope s__law_far) .none kV6 dc6 pm6 an6 cd6 ct6), sl6⟩) (c6 : PySem.W.codeIn K cd6 "_law_far" = true) (k6 : PySem.W.keepIn K (.ref f6) = true)
    {f7 : Addr} {oc7 kV7 dc7 pm7 cd7 ct7 : Value} {od7 an7 : Option Addr} {sl7 : Array (Option Value)} (a7 : PySem.W.nsIn K mainGlobals "_law_far_guard" = some (some (.ref f7))) (l7 : K.lookup f7 = some ⟨oc7, od7, .func (PySem.W.fnOf "_law_far_guard" "_law_far_guard" (defArgs s__law_far_guard) (defBody s__law_far_guard) (defScope s__law_far_guard) .none kV7 dc7 pm7 an7 cd7 ct7), sl7⟩) (c7 : PySem.W.codeIn K cd7 "_law_far_guard" = true) (k7 : PySem.W.keepIn K (.ref f7) = true)
    {f8 : Addr} {oc8 kV8 dc8 pm8 cd8 ct8 : Value} {od8 an8 : Option Addr} {sl8 : Array (Option Value)} (a8 : PySem.W.nsIn K mainGlobals "_law_pair" = some (some (.ref f8))) (l8 : K.lookup f8 = some ⟨oc8, od8, .func (PySem.W.fnOf "_law_pair" "_law_pair" (defArgs s__law_pair) (defBody s__law_pair) (defScope s__law_pair) .none kV8 dc8 pm8 an8 cd8 ct8), sl8⟩) (c8 : PySem.W.codeIn K cd8 "_law_pair" = true) (k8 : PySem.W.keepIn K (.ref f8) = true)
    {f9 : Addr} {oc9 kV9 dc9 pm9 cd9 ct9 : Value} {od9 an9 : Option Addr} {sl9 : Array (Option Value)} (a9 : PySem.W.nsIn K mainGlobals "check_barriers" = some (some (.ref f9))) (l9 : K.lookup f9 = some ⟨oc9, od9, .func (PySem.W.fnOf "check_barriers" "check_barriers" (defArgs s_check_barriers) (defBody s_check_barriers) (defScope s_check_barriers) .none kV9 dc9 pm9 an9 cd9 ct9), sl9⟩) (c9 : PySem.W.codeIn K cd9 "check_barriers" = true) (k9 : PySem.W.keepIn K (.ref f9) = true)
    {f10 : Addr} {oc10 kV10 dc10 pm10 cd10 ct10 : Value} {od10 an10 : Option Addr} {sl10 : Array (Option Value)} (a10 : PySem.W.nsIn K mainGlobals "is_array" = some (some (.ref f10))) (l10 : K.lookup f10 = some ⟨oc10, od10, .func (PySem.W.fnOf "is_array" "is_array" (defArgs s_is_array) (defBody s_is_array) (defScope s_is_array) .none kV10 dc10 pm10 an10 cd10 ct10), sl10⟩) (c10 : PySem.W.codeIn K cd10 "is_array" = true) (k10 : PySem.W.keepIn K (.ref f10) = true)
    {f11 : Addr} {oc11 kV11 dc11 pm11 cd11 ct11 : Value} {od11 an11 : Option Addr} {sl11 : Array (Option Value)} (a11 : PySem.W.nsIn K mainGlobals "is_guard" = some (some (.ref f11))) (l11 : K.lookup f11 = some ⟨oc11, od11, .func (PySem.W.fnOf "is_guard" "is_guard" (defArgs s_is_guard) (defBody s_is_guard) (defScope s_is_guard) .none kV11 dc11 pm11 an11 cd11 ct11), sl11⟩) (c11 : PySem.W.codeIn K cd11 "is_guard" = true) (k11 : PySem.W.keepIn K (.ref f11) = true)
    {f12 : Addr} {oc12 kV12 dc12 pm12 cd12 ct12 : Value} {od12 an12 : Option Addr} {sl12 : Array (Option Value)} (a12 : PySem.W.nsIn K mainGlobals "is_statement" = some (some (.ref f12))) (l12 : K.lookup f12 = some ⟨oc12, od12, .func (PySem.W.fnOf "is_statement" "is_statement" (defArgs s_is_statement) (defBody s_is_statement) (defScope s_is_statement) .none kV12 dc12 pm12 an12 cd12 ct12), sl12⟩) (c12 : PySem.W.codeIn K cd12 "is_statement" = true) (k12 : PySem.W.keepIn K (.ref f12) = true)
    {f13 : Addr} {oc13 kV13 dc13 pm13 cd13 ct13 : Value} {od13 an13 : Option Addr} {sl13 : Array (Option Value)} {T13 : Addr} (a13 : PySem.W.findIn K (.ref C_Kernel) "__init__" = some (some (.ref f13))) (l13 : K.lookup f13 = some ⟨oc13, od13, .func (PySem.W.fnOf "__init__" "Kernel.__init__" (defArgs s_Kernel___init__) (defBody s_Kernel___init__) (defScope s_Kernel___init__) (.ref T13) kV13 dc13 pm13 an13 cd13 ct13), sl13⟩) (c13 : PySem.W.codeIn K cd13 "Kernel.__init__" = true) (k13 : PySem.W.keepIn K (.ref f13) = true)
    {oT13 : Value} {dT13 de13 : Option Addr} {nT13 ne13 : Nat} {sT13 se13 : Array (Option Value)} {e13 : Addr} (m13 : K.lookup T13 = some ⟨oT13, dT13, .seq #[.ref e13] nT13, sT13⟩) (o13 : K.lookup e13 = some ⟨.type "tuple", de13, .seq #[] ne13, se13⟩)
    {f14 : Addr} {oc14 kV14 dc14 pm14 cd14 ct14 : Value} {od14 an14 : Option Addr} {sl14 : Array (Option Value)} (a14 : PySem.W.nsIn K mainGlobals "accesses_in" = some (some (.ref f14))) (l14 : K.lookup f14 = some ⟨oc14, od14, .func (PySem.W.fnOf "accesses_in" "accesses_in" (defArgs s_accesses_in) (defBody s_accesses_in) (defScope s_accesses_in) .none kV14 dc14 pm14 an14 cd14 ct14), sl14⟩) (c14 : PySem.W.codeIn K cd14 "accesses_in" = true) (k14 : PySem.W.keepIn K (.ref f14) = true)
    {f15 : Addr} {oc15 kV15 dc15 pm15 cd15 ct15 : Value} {od15 an15 : Option Addr} {sl15 : Array (Option Value)} (a15 : PySem.W.nsIn K mainGlobals "access_list" = some (some (.ref f15))) (l15 : K.lookup f15 = some ⟨oc15, od15, .func (PySem.W.fnOf "access_list" "access_list" (defArgs s_access_list) (defBody s_access_list) (defScope s_access_list) .none kV15 dc15 pm15 an15 cd15 ct15), sl15⟩) (c15 : PySem.W.codeIn K cd15 "access_list" = true) (k15 : PySem.W.keepIn K (.ref f15) = true)
    {f16 : Addr} {oc16 kV16 dc16 pm16 cd16 ct16 : Value} {od16 an16 : Option Addr} {sl16 : Array (Option Value)} (a16 : PySem.W.nsIn K mainGlobals "check_access" = some (some (.ref f16))) (l16 : K.lookup f16 = some ⟨oc16, od16, .func (PySem.W.fnOf "check_access" "check_access" (defArgs s_check_access) (defBody s_check_access) (defScope s_check_access) .none kV16 dc16 pm16 an16 cd16 ct16), sl16⟩) (c16 : PySem.W.codeIn K cd16 "check_access" = true) (k16 : PySem.W.keepIn K (.ref f16) = true)
    {f17 : Addr} {oc17 kV17 dc17 pm17 cd17 ct17 : Value} {od17 an17 : Option Addr} {sl17 : Array (Option Value)} (a17 : PySem.W.nsIn K mainGlobals "check_banks" = some (some (.ref f17))) (l17 : K.lookup f17 = some ⟨oc17, od17, .func (PySem.W.fnOf "check_banks" "check_banks" (defArgs s_check_banks) (defBody s_check_banks) (defScope s_check_banks) .none kV17 dc17 pm17 an17 cd17 ct17), sl17⟩) (c17 : PySem.W.codeIn K cd17 "check_banks" = true) (k17 : PySem.W.keepIn K (.ref f17) = true)
    {f18 : Addr} {oc18 kV18 dc18 pm18 cd18 ct18 : Value} {od18 an18 : Option Addr} {sl18 : Array (Option Value)} (a18 : PySem.W.nsIn K mainGlobals "check_wave" = some (some (.ref f18))) (l18 : K.lookup f18 = some ⟨oc18, od18, .func (PySem.W.fnOf "check_wave" "check_wave" (defArgs s_check_wave) (defBody s_check_wave) (defScope s_check_wave) .none kV18 dc18 pm18 an18 cd18 ct18), sl18⟩) (c18 : PySem.W.codeIn K cd18 "check_wave" = true) (k18 : PySem.W.keepIn K (.ref f18) = true)
    {f19 : Addr} {oc19 kV19 dc19 pm19 cd19 ct19 : Value} {od19 an19 : Option Addr} {sl19 : Array (Option Value)} (a19 : PySem.W.nsIn K mainGlobals "are_lonely" = some (some (.ref f19))) (l19 : K.lookup f19 = some ⟨oc19, od19, .func (PySem.W.fnOf "are_lonely" "are_lonely" (defArgs s_are_lonely) (defBody s_are_lonely) (defScope s_are_lonely) .none kV19 dc19 pm19 an19 cd19 ct19), sl19⟩) (c19 : PySem.W.codeIn K cd19 "are_lonely" = true) (k19 : PySem.W.keepIn K (.ref f19) = true)
    {f20 : Addr} {oc20 kV20 dc20 pm20 cd20 ct20 : Value} {od20 an20 : Option Addr} {sl20 : Array (Option Value)} (a20 : PySem.W.nsIn K mainGlobals "bezout" = some (some (.ref f20))) (l20 : K.lookup f20 = some ⟨oc20, od20, .func (PySem.W.fnOf "bezout" "bezout" (defArgs s_bezout) (defBody s_bezout) (defScope s_bezout) .none kV20 dc20 pm20 an20 cd20 ct20), sl20⟩) (c20 : PySem.W.codeIn K cd20 "bezout" = true) (k20 : PySem.W.keepIn K (.ref f20) = true)
    {f21 : Addr} {oc21 kV21 dc21 pm21 cd21 ct21 : Value} {od21 an21 : Option Addr} {sl21 : Array (Option Value)} (a21 : PySem.W.nsIn K mainGlobals "different_banks" = some (some (.ref f21))) (l21 : K.lookup f21 = some ⟨oc21, od21, .func (PySem.W.fnOf "different_banks" "different_banks" (defArgs s_different_banks) (defBody s_different_banks) (defScope s_different_banks) .none kV21 dc21 pm21 an21 cd21 ct21), sl21⟩) (c21 : PySem.W.codeIn K cd21 "different_banks" = true) (k21 : PySem.W.keepIn K (.ref f21) = true)
    {f22 : Addr} {oc22 kV22 dc22 pm22 cd22 ct22 : Value} {od22 an22 : Option Addr} {sl22 : Array (Option Value)} (a22 : PySem.W.nsIn K mainGlobals "degree_for" = some (some (.ref f22))) (l22 : K.lookup f22 = some ⟨oc22, od22, .func (PySem.W.fnOf "degree_for" "degree_for" (defArgs s_degree_for) (defBody s_degree_for) (defScope s_degree_for) .none kV22 dc22 pm22 an22 cd22 ct22), sl22⟩) (c22 : PySem.W.codeIn K cd22 "degree_for" = true) (k22 : PySem.W.keepIn K (.ref f22) = true)
    {f23 : Addr} {oc23 kV23 dc23 pm23 cd23 ct23 : Value} {od23 an23 : Option Addr} {sl23 : Array (Option Value)} (a23 : PySem.W.nsIn K mainGlobals "first_of" = some (some (.ref f23))) (l23 : K.lookup f23 = some ⟨oc23, od23, .func (PySem.W.fnOf "first_of" "first_of" (defArgs s_first_of) (defBody s_first_of) (defScope s_first_of) .none kV23 dc23 pm23 an23 cd23 ct23), sl23⟩) (c23 : PySem.W.codeIn K cd23 "first_of" = true) (k23 : PySem.W.keepIn K (.ref f23) = true)
    {f24 : Addr} {oc24 kV24 dc24 pm24 cd24 ct24 : Value} {od24 an24 : Option Addr} {sl24 : Array (Option Value)} (a24 : PySem.W.nsIn K mainGlobals "lanes_of" = some (some (.ref f24))) (l24 : K.lookup f24 = some ⟨oc24, od24, .func (PySem.W.fnOf "lanes_of" "lanes_of" (defArgs s_lanes_of) (defBody s_lanes_of) (defScope s_lanes_of) .none kV24 dc24 pm24 an24 cd24 ct24), sl24⟩) (c24 : PySem.W.codeIn K cd24 "lanes_of" = true) (k24 : PySem.W.keepIn K (.ref f24) = true)
    {f25 : Addr} {oc25 kV25 dc25 pm25 cd25 ct25 : Value} {od25 an25 : Option Addr} {sl25 : Array (Option Value)} (a25 : PySem.W.nsIn K mainGlobals "part_in" = some (some (.ref f25))) (l25 : K.lookup f25 = some ⟨oc25, od25, .func (PySem.W.fnOf "part_in" "part_in" (defArgs s_part_in) (defBody s_part_in) (defScope s_part_in) .none kV25 dc25 pm25 an25 cd25 ct25), sl25⟩) (c25 : PySem.W.codeIn K cd25 "part_in" = true) (k25 : PySem.W.keepIn K (.ref f25) = true)
    {f26 : Addr} {oc26 kV26 dc26 pm26 cd26 ct26 : Value} {od26 an26 : Option Addr} {sl26 : Array (Option Value)} (a26 : PySem.W.nsIn K mainGlobals "in_wave" = some (some (.ref f26))) (l26 : K.lookup f26 = some ⟨oc26, od26, .func (PySem.W.fnOf "in_wave" "in_wave" (defArgs s_in_wave) (defBody s_in_wave) (defScope s_in_wave) .none kV26 dc26 pm26 an26 cd26 ct26), sl26⟩) (c26 : PySem.W.codeIn K cd26 "in_wave" = true) (k26 : PySem.W.keepIn K (.ref f26) = true)
    {f27 : Addr} {oc27 kV27 dc27 pm27 cd27 ct27 : Value} {od27 an27 : Option Addr} {sl27 : Array (Option Value)} (a27 : PySem.W.nsIn K mainGlobals "lane_at" = some (some (.ref f27))) (l27 : K.lookup f27 = some ⟨oc27, od27, .func (PySem.W.fnOf "lane_at" "lane_at" (defArgs s_lane_at) (defBody s_lane_at) (defScope s_lane_at) .none kV27 dc27 pm27 an27 cd27 ct27), sl27⟩) (c27 : PySem.W.codeIn K cd27 "lane_at" = true) (k27 : PySem.W.keepIn K (.ref f27) = true)
    {f28 : Addr} {oc28 kV28 dc28 pm28 cd28 ct28 : Value} {od28 an28 : Option Addr} {sl28 : Array (Option Value)} (a28 : PySem.W.nsIn K mainGlobals "last_of" = some (some (.ref f28))) (l28 : K.lookup f28 = some ⟨oc28, od28, .func (PySem.W.fnOf "last_of" "last_of" (defArgs s_last_of) (defBody s_last_of) (defScope s_last_of) .none kV28 dc28 pm28 an28 cd28 ct28), sl28⟩) (c28 : PySem.W.codeIn K cd28 "last_of" = true) (k28 : PySem.W.keepIn K (.ref f28) = true)
    {f29 : Addr} {oc29 kV29 dc29 pm29 cd29 ct29 : Value} {od29 an29 : Option Addr} {sl29 : Array (Option Value)} (a29 : PySem.W.nsIn K mainGlobals "waves_of" = some (some (.ref f29))) (l29 : K.lookup f29 = some ⟨oc29, od29, .func (PySem.W.fnOf "waves_of" "waves_of" (defArgs s_waves_of) (defBody s_waves_of) (defScope s_waves_of) .none kV29 dc29 pm29 an29 cd29 ct29), sl29⟩) (c29 : PySem.W.codeIn K cd29 "waves_of" = true) (k29 : PySem.W.keepIn K (.ref f29) = true)
    {f30 : Addr} {oc30 kV30 dc30 pm30 cd30 ct30 : Value} {od30 an30 : Option Addr} {sl30 : Array (Option Value)} (a30 : PySem.W.nsIn K mainGlobals "waves_with" = some (some (.ref f30))) (l30 : K.lookup f30 = some ⟨oc30, od30, .func (PySem.W.fnOf "waves_with" "waves_with" (defArgs s_waves_with) (defBody s_waves_with) (defScope s_waves_with) .none kV30 dc30 pm30 an30 cd30 ct30), sl30⟩) (c30 : PySem.W.codeIn K cd30 "waves_with" = true) (k30 : PySem.W.keepIn K (.ref f30) = true)
    {f31 : Addr} {oc31 kV31 dc31 pm31 cd31 ct31 : Value} {od31 an31 : Option Addr} {sl31 : Array (Option Value)} (a31 : PySem.W.nsIn K mainGlobals "degrees_of" = some (some (.ref f31))) (l31 : K.lookup f31 = some ⟨oc31, od31, .func (PySem.W.fnOf "degrees_of" "degrees_of" (defArgs s_degrees_of) (defBody s_degrees_of) (defScope s_degrees_of) .none kV31 dc31 pm31 an31 cd31 ct31), sl31⟩) (c31 : PySem.W.codeIn K cd31 "degrees_of" = true) (k31 : PySem.W.keepIn K (.ref f31) = true)
    {f32 : Addr} {oc32 kV32 dc32 pm32 cd32 ct32 : Value} {od32 an32 : Option Addr} {sl32 : Array (Option Value)} (a32 : PySem.W.nsIn K mainGlobals "greatest_degree" = some (some (.ref f32))) (l32 : K.lookup f32 = some ⟨oc32, od32, .func (PySem.W.fnOf "greatest_degree" "greatest_degree" (defArgs s_greatest_degree) (defBody s_greatest_degree) (defScope s_greatest_degree) .none kV32 dc32 pm32 an32 cd32 ct32), sl32⟩) (c32 : PySem.W.codeIn K cd32 "greatest_degree" = true) (k32 : PySem.W.keepIn K (.ref f32) = true)
    {f33 : Addr} {oc33 kV33 dc33 pm33 cd33 ct33 : Value} {od33 an33 : Option Addr} {sl33 : Array (Option Value)} (a33 : PySem.W.nsIn K mainGlobals "total_degree" = some (some (.ref f33))) (l33 : K.lookup f33 = some ⟨oc33, od33, .func (PySem.W.fnOf "total_degree" "total_degree" (defArgs s_total_degree) (defBody s_total_degree) (defScope s_total_degree) .none kV33 dc33 pm33 an33 cd33 ct33), sl33⟩) (c33 : PySem.W.codeIn K cd33 "total_degree" = true) (k33 : PySem.W.keepIn K (.ref f33) = true)
    {f34 : Addr} {oc34 kV34 dc34 pm34 cd34 ct34 : Value} {od34 an34 : Option Addr} {sl34 : Array (Option Value)} (a34 : PySem.W.nsIn K mainGlobals "_law_told" = some (some (.ref f34))) (l34 : K.lookup f34 = some ⟨oc34, od34, .func (PySem.W.fnOf "_law_told" "_law_told" (defArgs s__law_told) (defBody s__law_told) (defScope s__law_told) .none kV34 dc34 pm34 an34 cd34 ct34), sl34⟩) (c34 : PySem.W.codeIn K cd34 "_law_told" = true) (k34 : PySem.W.keepIn K (.ref f34) = true)
    {f35 : Addr} {oc35 kV35 dc35 pm35 cd35 ct35 : Value} {od35 an35 : Option Addr} {sl35 : Array (Option Value)} (a35 : PySem.W.nsIn K mainGlobals "_law_right" = some (some (.ref f35))) (l35 : K.lookup f35 = some ⟨oc35, od35, .func (PySem.W.fnOf "_law_right" "_law_right" (defArgs s__law_right) (defBody s__law_right) (defScope s__law_right) .none kV35 dc35 pm35 an35 cd35 ct35), sl35⟩) (c35 : PySem.W.codeIn K cd35 "_law_right" = true) (k35 : PySem.W.keepIn K (.ref f35) = true)
    {f36 : Addr} {oc36 kV36 dc36 pm36 cd36 ct36 : Value} {od36 an36 : Option Addr} {sl36 : Array (Option Value)} (a36 : PySem.W.nsIn K mainGlobals "law" = some (some (.ref f36))) (l36 : K.lookup f36 = some ⟨oc36, od36, .func (PySem.W.fnOf "law" "law" (defArgs s_law) (defBody s_law) (defScope s_law) .none kV36 dc36 pm36 an36 cd36 ct36), sl36⟩) (c36 : PySem.W.codeIn K cd36 "law" = true) (k36 : PySem.W.keepIn K (.ref f36) = true)
    (z_abs : PySem.W.nsIn K mainGlobals "abs" = some none)
    (z_all : PySem.W.nsIn K mainGlobals "all" = some none)
    (z_enumerate : PySem.W.nsIn K mainGlobals "enumerate" = some none)
    (z_len : PySem.W.nsIn K mainGlobals "len" = some none)
    (z_max : PySem.W.nsIn K mainGlobals "max" = some none)
    (z_min : PySem.W.nsIn K mainGlobals "min" = some none)
    (z_range : PySem.W.nsIn K mainGlobals "range" = some none)
    (z_set : PySem.W.nsIn K mainGlobals "set" = some none)
    (z_sorted : PySem.W.nsIn K mainGlobals "sorted" = some none)
    (z_sum : PySem.W.nsIn K mainGlobals "sum" = some none)
    (z_tuple : PySem.W.nsIn K mainGlobals "tuple" = some none)
    {tk_MOST_LETTERS : Tok} (n_MOST_LETTERS : PySem.W.nsIn K mainGlobals "MOST_LETTERS" = some (some (.int 8 tk_MOST_LETTERS)))
    {tk_LETTERS : Tok} (n_LETTERS : PySem.W.nsIn K mainGlobals "LETTERS" = some (some (.str "abcdefghijklmnopqrstuvwxyz" tk_LETTERS)))
    {tk_READ : Tok} (n_READ : PySem.W.nsIn K mainGlobals "READ" = some (some (.str "read" tk_READ)))
    {tk_WRITE : Tok} (n_WRITE : PySem.W.nsIn K mainGlobals "WRITE" = some (some (.str "write" tk_WRITE)))
    {tk_MOST_BANKS : Tok} (n_MOST_BANKS : PySem.W.nsIn K mainGlobals "MOST_BANKS" = some (some (.int 4096 tk_MOST_BANKS)))
    {tk_MOST_WAVE : Tok} (n_MOST_WAVE : PySem.W.nsIn K mainGlobals "MOST_WAVE" = some (some (.int 32 tk_MOST_WAVE)))
    (pg_Kernel : PySem.W.plainGet K C_Kernel Str.empty = true)
    (hd_Kernel : PySem.W.hasDictIn K C_Kernel = true)
    (po_Kernel : PySem.W.plainOver K C_Kernel = true)
    (sa_Kernel : PySem.W.findIn K (.ref C_Kernel) "__setattr__" = some (some (.builtin "object.__setattr__")))
    (mi_Kernel : PySem.W.makesIn K C_Kernel = true)
    (kc_Kernel : PySem.W.keepIn K (.ref C_Kernel) = true)
    (fi_Kernel : PySem.W.isFn K (.ref f13) = true)
    (na_Kernel_lane_count : PySem.W.findIn K (.ref C_Kernel) "lane_count" = some none)
    (na_Kernel_kept_statements : PySem.W.findIn K (.ref C_Kernel) "kept_statements" = some none)
    (na_Kernel_kept_barriers : PySem.W.findIn K (.ref C_Kernel) "kept_barriers" = some none)
    {p_ITEMS : Addr} {es_ITEMS : Array DictEntry} {n_ITEMS : Nat} (aD_ITEMS : PySem.W.nsIn K mainGlobals "ITEMS" = some (some (.ref p_ITEMS))) (lD_ITEMS : K.lookup p_ITEMS = some ⟨.type "dict", none, .dict es_ITEMS n_ITEMS, #[]⟩) (tD_ITEMS : es_ITEMS.toList.map He.keyOf = He.keysIn w.params ["put", "move", "sum"]) (wD_ITEMS : (p_ITEMS == sysModules) = false)
    {tk_ITEMS_0 : Tok} (kD_ITEMS_0 : PySem.W.nsIn K p_ITEMS "put" = some (some (.int 7 tk_ITEMS_0)))
    {tk_ITEMS_1 : Tok} (kD_ITEMS_1 : PySem.W.nsIn K p_ITEMS "move" = some (some (.int 9 tk_ITEMS_1)))
    {tk_ITEMS_2 : Tok} (kD_ITEMS_2 : PySem.W.nsIn K p_ITEMS "sum" = some (some (.int 11 tk_ITEMS_2)))
    {p_PLACES : Addr} {es_PLACES : Array DictEntry} {n_PLACES : Nat} (aD_PLACES : PySem.W.nsIn K mainGlobals "PLACES" = some (some (.ref p_PLACES))) (lD_PLACES : K.lookup p_PLACES = some ⟨.type "dict", none, .dict es_PLACES n_PLACES, #[]⟩) (tD_PLACES : es_PLACES.toList.map He.keyOf = He.keysIn w.params ["put", "move", "sum"]) (wD_PLACES : (p_PLACES == sysModules) = false)
    {r_PLACES_0 : Addr} {od_PLACES_0 : Option Addr} {it_PLACES_0 : Array Value} {nn_PLACES_0 : Nat} {sl_PLACES_0 : Array (Option Value)} (kD_PLACES_0 : PySem.W.nsIn K p_PLACES "put" = some (some (.ref r_PLACES_0))) (uD_PLACES_0 : K.lookup r_PLACES_0 = some ⟨.type "tuple", od_PLACES_0, .seq it_PLACES_0 nn_PLACES_0, sl_PLACES_0⟩) (sD_PLACES_0 : it_PLACES_0.size ≤ sizeLine) (vD_PLACES_0 : Vals (([2] : List Int).map V.int) it_PLACES_0.toList)
    {r_PLACES_1 : Addr} {od_PLACES_1 : Option Addr} {it_PLACES_1 : Array Value} {nn_PLACES_1 : Nat} {sl_PLACES_1 : Array (Option Value)} (kD_PLACES_1 : PySem.W.nsIn K p_PLACES "move" = some (some (.ref r_PLACES_1))) (uD_PLACES_1 : K.lookup r_PLACES_1 = some ⟨.type "tuple", od_PLACES_1, .seq it_PLACES_1 nn_PLACES_1, sl_PLACES_1⟩) (sD_PLACES_1 : it_PLACES_1.size ≤ sizeLine) (vD_PLACES_1 : Vals (([2, 5] : List Int).map V.int) it_PLACES_1.toList)
    {r_PLACES_2 : Addr} {od_PLACES_2 : Option Addr} {it_PLACES_2 : Array Value} {nn_PLACES_2 : Nat} {sl_PLACES_2 : Array (Option Value)} (kD_PLACES_2 : PySem.W.nsIn K p_PLACES "sum" = some (some (.ref r_PLACES_2))) (uD_PLACES_2 : K.lookup r_PLACES_2 = some ⟨.type "tuple", od_PLACES_2, .seq it_PLACES_2 nn_PLACES_2, sl_PLACES_2⟩) (sD_PLACES_2 : it_PLACES_2.size ≤ sizeLine) (vD_PLACES_2 : Vals (([2, 5, 8] : List Int).map V.int) it_PLACES_2.toList) :
    ∃ fd : FuncData, (∀ (s : Shared) (v : Value), BindsTo s fd ⟨[v], []⟩ [("script", v)]) ∧ ∀ base : Heap, K.In base → base.Ns mainGlobals mg → FnP l.prog w K mg base (PL.clT [] (PXE.clOf K)) 9 fa fd ["script"] m_law := by
  have e := hfa.symm.trans (PySem.W.mg_of X G a36)
  cases e
  exact ⟨(txt_of (prog := l.prog) (w := w) X G aC_Kernel a0 l0 c0 k0 a1 l1 c1 k1 a2 l2 c2 k2 a3 l3 c3 k3 a4 l4 c4 k4 a5 l5 c5 k5 a6 l6 c6 k6 a7 l7 c7 k7 a8 l8 c8 k8 a9 l9 c9 k9 a10 l10 c10 k10 a11 l11 c11 k11 a12 l12 c12 k12 a13 l13 c13 k13 m13 o13 a14 l14 c14 k14 a15 l15 c15 k15 a16 l16 c16 k16 a17 l17 c17 k17 a18 l18 c18 k18 a19 l19 c19 k19 a20 l20 c20 k20 a21 l21 c21 k21 a22 l22 c22 k22 a23 l23 c23 k23 a24 l24 c24 k24 a25 l25 c25 k25 a26 l26 c26 k26 a27 l27 c27 k27 a28 l28 c28 k28 a29 l29 c29 k29 a30 l30 c30 k30 a31 l31 c31 k31 a32 l32 c32 k32 a33 l33 c33 k33 a34 l34 c34 k34 a35 l35 c35 k35 a36 l36 c36 k36 z_abs z_all z_enumerate z_len z_max z_min z_range z_set z_sorted z_sum z_tuple n_MOST_LETTERS n_LETTERS n_READ n_WRITE n_MOST_BANKS n_MOST_WAVE pg_Kernel hd_Kernel po_Kernel sa_Kernel mi_Kernel kc_Kernel fi_Kernel na_Kernel_lane_count na_Kernel_kept_statements na_Kernel_kept_barriers aD_ITEMS lD_ITEMS tD_ITEMS wD_ITEMS kD_ITEMS_0 kD_ITEMS_1 kD_ITEMS_2 aD_PLACES lD_PLACES tD_PLACES wD_PLACES kD_PLACES_0 uD_PLACES_0 sD_PLACES_0 vD_PLACES_0 kD_PLACES_1 uD_PLACES_1 sD_PLACES_1 vD_PLACES_1 kD_PLACES_2 uD_PLACES_2 sD_PLACES_2 vD_PLACES_2).fd_law, fun s v => .of_eq rfl, fun base _ _ => ok_law (w := w) (txt_of (prog := l.prog) (w := w) X G aC_Kernel a0 l0 c0 k0 a1 l1 c1 k1 a2 l2 c2 k2 a3 l3 c3 k3 a4 l4 c4 k4 a5 l5 c5 k5 a6 l6 c6 k6 a7 l7 c7 k7 a8 l8 c8 k8 a9 l9 c9 k9 a10 l10 c10 k10 a11 l11 c11 k11 a12 l12 c12 k12 a13 l13 c13 k13 m13 o13 a14 l14 c14 k14 a15 l15 c15 k15 a16 l16 c16 k16 a17 l17 c17 k17 a18 l18 c18 k18 a19 l19 c19 k19 a20 l20 c20 k20 a21 l21 c21 k21 a22 l22 c22 k22 a23 l23 c23 k23 a24 l24 c24 k24 a25 l25 c25 k25 a26 l26 c26 k26 a27 l27 c27 k27 a28 l28 c28 k28 a29 l29 c29 k29 a30 l30 c30 k30 a31 l31 c31 k31 a32 l32 c32 k32 a33 l33 c33 k33 a34 l34 c34 k34 a35 l35 c35 k35 a36 l36 c36 k36 z_abs z_all z_enumerate z_len z_max z_min z_range z_set z_sorted z_sum z_tuple n_MOST_LETTERS n_LETTERS n_READ n_WRITE n_MOST_BANKS n_MOST_WAVE pg_Kernel hd_Kernel po_Kernel sa_Kernel mi_Kernel kc_Kernel fi_Kernel na_Kernel_lane_count na_Kernel_kept_statements na_Kernel_kept_barriers aD_ITEMS lD_ITEMS tD_ITEMS wD_ITEMS kD_ITEMS_0 kD_ITEMS_1 kD_ITEMS_2 aD_PLACES lD_PLACES tD_PLACES wD_PLACES kD_PLACES_0 uD_PLACES_0 sD_PLACES_0 vD_PLACES_0 kD_PLACES_1 uD_PLACES_1 sD_PLACES_1 vD_PLACES_1 kD_PLACES_2 uD_PLACES_2 sD_PLACES_2 vD_PLACES_2)⟩
end K46
/-! K39_N: lanes by waves: the plain law. -/
namespace K39
open PN PM
theorem wave_iff {W x j : Int} (hW : 0 < W) : x / W = j ↔ W * j ≤ x ∧ x < W * j + W := by
  have e := Int.mul_ediv_add_emod x W
  have a := Int.emod_nonneg x (show W ≠ 0 by omega)
  have b := Int.emod_lt_of_pos x hW
  constructor
  · intro z; subst z; omega
  · rintro ⟨h1, h2⟩
    rw [show x = (x - W * j) + W * j by omega, Int.add_mul_ediv_left _ _ (by omega), Int.ediv_eq_zero_of_lt (by omega) (by omega)]
    omega
theorem row_eq {l h s r W : Int} (hW : 0 < W) (j : Int) : (listed l h s r).filter (fun x => decide (x / W = j)) = listed (max l (W * j)) (min h (W * j + W)) s r := by
  refine asc_ext ((listed_asc ..).filter _) (listed_asc ..) fun x => ?_
  rw [List.mem_filter, mem_listed, mem_listed, decide_eq_true_iff, wave_iff hW]
  omega
theorem lanes_zero {a b s r : Int} (hs : 0 < s) (h : b ≤ a) : lanesOf a b s r = 0 := by
  have n := lanes_nonneg a b s r
  by_cases z : lanesOf a b s r = 0
  · exact z
  · have c := (lanes_lt (l := a) (h := b) (r := r) hs (Int.le_refl 0)).mp (by omega)
    have := first_ge (l := a) (r := r) hs
    omega
def cut (l h W k : Int) : Int := min h (max l (W * k))
end K39
/-! K43_N: whole lines of waves: the plain law. -/
namespace K43
open PN
theorem lanes_zero {a b s r : Int} (hs : 0 < s) (h : b ≤ a) : lanesOf a b s r = 0 := lanes_none hs (by
  have := first_ge (l := a) (r := r) hs
  omega)
def cut (l h W k : Int) : Int := min h (max l (W * k))
theorem lines_waves {l h s r W a b z : Int} (hs : 0 < s) (hW : 0 < W) (h0 : 0 ≤ r) (h1 : r < s) (l0 : 0 ≤ l) (lh : l ≤ h) : ∀ n : Nat, linesOf l (cut l h W (n : Int)) s r W a b z = ((List.range n).map fun j : Nat => linesOf (max l (W * (j : Int))) (min h (W * (j : Int) + W)) s r W a b z).sum
  | 0 => by
    rw [show cut l h W ((0 : Nat) : Int) = l by unfold cut; rw [show ((0 : Nat) : Int) = 0 from rfl, Int.mul_zero]; omega, lines_none hs h0 h1 (lanes_zero hs (Int.le_refl l))]
    rfl
  | n + 1 => by
    have ih := lines_waves (a := a) (b := b) (z := z) hs hW h0 h1 l0 lh n
    rw [List.range_succ, List.map_append, List.sum_append, ← ih]
    show _ = _ + (linesOf (max l (W * (n : Int))) (min h (W * (n : Int) + W)) s r W a b z + 0)
    have m : W * ((n + 1 : Nat) : Int) = W * (n : Int) + W := by rw [show ((n + 1 : Nat) : Int) = (n : Int) + 1 by omega, Int.mul_add, Int.mul_one]
    have k0 : 0 ≤ W * (n : Int) := Int.mul_nonneg (by omega) (by omega)
    unfold cut
    rw [m]
    by_cases A : W * (n : Int) + W ≤ l
    · rw [show min h (max l (W * (n : Int) + W)) = l by omega, show min h (max l (W * (n : Int))) = l by omega, lines_none (l := max l (W * (n : Int))) hs h0 h1 (lanes_zero hs (by omega))]
      omega
    · by_cases B : h ≤ W * (n : Int)
      · rw [show min h (max l (W * (n : Int) + W)) = h by omega, show min h (max l (W * (n : Int))) = h by omega, lines_none (l := max l (W * (n : Int))) hs h0 h1 (lanes_zero hs (by omega))]
        omega
      · rw [show min h (max l (W * (n : Int) + W)) = min h (W * (n : Int) + W) by omega]
        by_cases D : l ≤ W * (n : Int)
        · rw [show min h (max l (W * (n : Int))) = W * (n : Int) by omega, show max l (W * (n : Int)) = W * (n : Int) by omega, ← lines_add hW (c := W * (n : Int)) (by rw [Int.mul_emod_right]) D (by omega)]
          omega
        · rw [show min h (max l (W * (n : Int))) = l by omega, show max l (W * (n : Int)) = l by omega, lines_none (l := l) (h := l) hs h0 h1 (lanes_zero hs (Int.le_refl l))]
          omega
def nw (t W : Int) : Nat := ((t + W - 1) / W).toNat
theorem nw_all {t W : Int} (hW : 0 < W) (t0 : 0 ≤ t) : t ≤ W * (nw t W : Int) := by
  unfold nw
  have e := Int.mul_ediv_add_emod (t + W - 1) W
  have b := Int.emod_lt_of_pos (t + W - 1) hW
  have c : 0 ≤ (t + W - 1) / W := Int.ediv_nonneg (by omega) (by omega)
  rw [Int.toNat_of_nonneg c]
  omega
theorem lines_total {t l h s r W a b z : Int} (hs : 0 < s) (hW : 0 < W) (h0 : 0 ≤ r) (h1 : r < s) (l0 : 0 ≤ l) (lh : l ≤ h) (ht : h ≤ t) : ((List.range (nw t W)).map fun j : Nat => linesOf (max l (W * (j : Int))) (min h (W * (j : Int) + W)) s r W a b z).sum = linesOf l h s r W a b z := by
  rw [← lines_waves hs hW h0 h1 l0 lh (nw t W)]
  have := nw_all (t := t) hW (by omega)
  rw [show cut l h W (nw t W : Int) = h by unfold cut; omega]
end K43
/-! PFAR: lines of very many lanes go on alike behind a period; sums over the waves that have lanes. -/
namespace PN
open PL
theorem perm_sumI {a b : List Int} (h : a.Perm b) : a.sum = b.sum := by
  induction h with
  | nil => rfl
  | cons x _ ih => rw [List.sum_cons, List.sum_cons, ih]
  | swap x y l => rw [List.sum_cons, List.sum_cons, List.sum_cons, List.sum_cons]; omega
  | trans _ _ ih1 ih2 => exact ih1.trans ih2
theorem sum_filter0 {f : Int → Int} {p : Int → Bool} : ∀ L : List Int, (∀ x ∈ L, p x = false → f x = 0) → (L.map f).sum = ((L.filter p).map f).sum
  | [], _ => rfl
  | x :: L, h => by
    have ih := sum_filter0 (f := f) (p := p) L fun y hy => h y (List.mem_cons_of_mem _ hy)
    rw [List.map_cons, List.sum_cons, ih]
    by_cases c : p x = true
    · rw [List.filter_cons_of_pos c, List.map_cons, List.sum_cons]
    · rw [List.filter_cons_of_neg c, h x List.mem_cons_self (by simpa using c)]
      omega
/-- a sum over numbers below n that are listed once -/
theorem sum_sub {ws : List Int} {n : Nat} {f : Int → Int} (nd : ws.Nodup) (hin : ∀ w ∈ ws, 0 ≤ w ∧ w < (n : Int)) (z : ∀ j : Nat, j < n → (j : Int) ∉ ws → f (j : Int) = 0) : (ws.map f).sum = ((List.range n).map fun j : Nat => f (j : Int)).sum := by
  have e : ((List.range n).map fun j : Nat => f (j : Int)) = ((List.range n).map fun j : Nat => (j : Int)).map f := by rw [List.map_map]; rfl
  rw [e, sum_filter0 (f := f) (p := fun x => decide (x ∈ ws)) ((List.range n).map fun j : Nat => (j : Int))]
  · refine perm_sumI (List.Perm.map f ?_)
    refine (List.perm_ext_iff_of_nodup nd ?_).mpr fun x => ?_
    · refine List.Pairwise.filter _ ?_
      exact List.pairwise_map.mpr (List.nodup_range.imp fun h => by omega)
    · rw [List.mem_filter, decide_eq_true_iff, List.mem_map]
      constructor
      · intro hx
        obtain ⟨h1, h2⟩ := hin x hx
        exact ⟨⟨x.toNat, List.mem_range.mpr (by omega), by omega⟩, hx⟩
      · exact fun h => h.2
  · intro x hx hp
    obtain ⟨j, hj, rfl⟩ := List.mem_map.mp hx
    exact z j (List.mem_range.mp hj) (by simpa using hp)
/-! ### moved on -/
/-- where the period begins -/
def begF (l h W : Int) : Int := min h ((l + W - 1) / W * W)
theorem beg_ok {l h W : Int} (hW : 0 < W) (lh : l ≤ h) : l ≤ begF l h W ∧ begF l h W ≤ h ∧ (begF l h W % W = 0 ∨ begF l h W = h) := by
  have e := Int.mul_ediv_add_emod (l + W - 1) W
  have b := Int.emod_lt_of_pos (l + W - 1) hW
  have c := Int.emod_nonneg (l + W - 1) (show W ≠ 0 by omega)
  have k : (l + W - 1) / W * W = W * ((l + W - 1) / W) := Int.mul_comm _ _
  unfold begF
  refine ⟨by omega, by omega, ?_⟩
  by_cases q : h ≤ (l + W - 1) / W * W
  · exact .inr (by omega)
  · rw [show min h ((l + W - 1) / W * W) = (l + W - 1) / W * W by omega, Int.mul_emod_left]
    exact .inl rfl
/-! ### the waves that have lanes -/
def wvs (l h s r W : Int) : List Int := onceI ((listed l h s r).map (· / W))
theorem mem_wvs {l h s r W w : Int} : w ∈ wvs l h s r W ↔ ∃ x ∈ listed l h s r, x / W = w := by
  unfold wvs
  rw [once_mem, List.mem_map]
theorem wvs_in {l h s r W : Int} (hW : 0 < W) (l0 : 0 ≤ l) (lh : l ≤ h) : ∀ w ∈ wvs l h s r W, 0 ≤ w ∧ w < (K43.nw h W : Int) := by
  intro w hw
  obtain ⟨x, hx, rfl⟩ := mem_wvs.mp hw
  rw [mem_listed] at hx
  have k := K43.nw_all (t := h) hW (by omega)
  have e := Int.mul_ediv_add_emod x W
  have c := Int.emod_nonneg x (show W ≠ 0 by omega)
  refine ⟨Int.ediv_nonneg (by omega) (by omega), ?_⟩
  exact Int.ediv_lt_of_lt_mul hW (by rw [Int.mul_comm]; omega)
def rowC (l h s r W a b w : Int) : List Int := ((listed l h s r).filter fun x => decide (x / W = w)).map fun x => a * x + b
theorem row_len {l h s r W a b w : Int} (hW : 1 ≤ W ∧ W ≤ 32) : (rowC l h s r W a b w).length ≤ 32 := by
  unfold rowC
  rw [List.length_map, K39.row_eq (by omega)]
  unfold listed
  refine Nat.le_trans (List.length_filter_le _ _) ?_
  unfold seqI
  rw [List.length_map, List.length_range]
  omega
theorem wvs_lines {l h s r W a b z : Int} (hs : 0 < s) (hW : 0 < W) (h0 : 0 ≤ r) (h1 : r < s) (hz : 0 < z) (l0 : 0 ≤ l) (lh : l ≤ h) :
    ((wvs l h s r W).map fun w => (((onceI ((rowC l h s r W a b w).map fun c => c / z)).length : Nat) : Int)).sum = linesOf l h s r W a b z := by
  have e : ∀ w : Int, (((onceI ((rowC l h s r W a b w).map fun c => c / z)).length : Nat) : Int) = linesOf (max l (W * w)) (min h (W * w + W)) s r W a b z := fun w => by
    unfold rowC
    rw [K39.row_eq hW]
    exact lines_once (j := w) hW hz (by omega) (by omega)
  simp only [e]
  rw [sum_sub (ws := wvs l h s r W) (n := K43.nw h W) (f := fun w => linesOf (max l (W * w)) (min h (W * w + W)) s r W a b z) (once_nd _) (wvs_in hW l0 lh)]
  · exact K43.lines_total hs hW h0 h1 l0 lh (Int.le_refl h)
  · intro j _ hj
    have : listed (max l (W * (j : Int))) (min h (W * (j : Int) + W)) s r = [] := by
      rw [← K39.row_eq hW]
      refine List.eq_nil_iff_forall_not_mem.mpr fun x hx => ?_
      obtain ⟨h1, h2⟩ := List.mem_filter.mp hx
      exact hj (mem_wvs.mpr ⟨x, h1, of_decide_eq_true h2⟩)
    show linesOf _ _ _ _ _ _ _ _ = 0
    unfold linesOf
    rw [this]
    rfl
end PN
/-! PFAR2: degrees of very many lanes go on alike behind a period. -/
namespace PN
open PL
/-! ### sums that go on alike -/
theorem per_gen {f : Int → Int → Int} {W P B : Int} (hB : B % W = 0) (B0 : 0 ≤ B) (P0 : 0 < P) (PW : P % W = 0) (fe : ∀ l, f l l = 0) (fadd : ∀ l c h, 0 ≤ l → c % W = 0 → l ≤ c → c ≤ h → f l c + f c h = f l h)
    (fsh : ∀ l h (m : Nat), 0 ≤ l → l ≤ h → f (l + P * (m : Int)) (h + P * (m : Int)) = f l h) : ∀ m : Nat, f B (B + P * (m : Int)) = (m : Int) * f B (B + P)
  | 0 => by
    rw [show ((0 : Nat) : Int) = 0 from rfl, Int.mul_zero, Int.add_zero, fe, Int.zero_mul]
  | m + 1 => by
    have ih := per_gen hB B0 P0 PW fe fadd fsh m
    have k0 : 0 ≤ P * (m : Int) := Int.mul_nonneg (by omega) (by omega)
    have dv : (P * (m : Int)) % W = 0 := by rw [Int.mul_emod, PW, Int.zero_mul, Int.zero_emod]
    rw [← fadd B (B + P * (m : Int)) _ B0 (by rw [Int.add_emod, hB, dv]; simp) (by omega) (by rw [show ((m + 1 : Nat) : Int) = (m : Int) + 1 by omega, Int.mul_add]; omega), ih]
    have e : f (B + P * (m : Int)) (B + P * ((m + 1 : Nat) : Int)) = f B (B + P) := by
      rw [show B + P * ((m + 1 : Nat) : Int) = (B + P) + P * (m : Int) by rw [show ((m + 1 : Nat) : Int) = (m : Int) + 1 by omega, Int.mul_add]; omega]
      exact fsh B (B + P) m B0 (by omega)
    rw [e, show ((m + 1 : Nat) : Int) = (m : Int) + 1 by omega, Int.add_mul, Int.one_mul]
theorem far_gen {f : Int → Int → Int} {l h W P : Int} (hW : 0 < W) (l0 : 0 ≤ l) (lh : l ≤ h) (P0 : 0 < P) (PW : P % W = 0) (fe : ∀ l, f l l = 0) (fadd : ∀ l c h, 0 ≤ l → c % W = 0 → l ≤ c → c ≤ h → f l c + f c h = f l h)
    (fsh : ∀ l h (m : Nat), 0 ≤ l → l ≤ h → f (l + P * (m : Int)) (h + P * (m : Int)) = f l h) :
    f l (begF l h W) + (h - begF l h W) / P * f (begF l h W) (begF l h W + P) + f (begF l h W) (begF l h W + (h - begF l h W) % P) = f l h := by
  obtain ⟨b1, b2, b3⟩ := beg_ok hW lh
  obtain ⟨B, hB⟩ : ∃ B, B = begF l h W := ⟨_, rfl⟩
  rw [← hB] at b1 b2 b3 ⊢
  have e := Int.mul_ediv_add_emod (h - B) P
  have q0 : 0 ≤ (h - B) / P := Int.ediv_nonneg (by omega) (by omega)
  have r0 := Int.emod_nonneg (h - B) (show P ≠ 0 by omega)
  rcases b3 with b3 | b3
  · obtain ⟨m, hm⟩ := Int.eq_ofNat_of_zero_le q0
    have k0 : 0 ≤ P * (m : Int) := Int.mul_nonneg (by omega) (by omega)
    have dv : (P * (m : Int)) % W = 0 := by rw [Int.mul_emod, PW, Int.zero_mul, Int.zero_emod]
    rw [hm] at e ⊢
    rw [← fadd l B h l0 b3 b1 b2, ← per_gen b3 (by omega) P0 PW fe fadd fsh m, ← fadd B (B + P * (m : Int)) h (by omega) (by rw [Int.add_emod, b3, dv]; simp) (by omega) (by omega)]
    have e2 : f (B + P * (m : Int)) h = f B (B + (h - B) % P) := by
      rw [← fsh B (B + (h - B) % P) m (by omega) (by omega)]
      congr 1
      omega
    rw [e2]
    omega
  · rw [b3, Int.sub_self, Int.zero_ediv, Int.zero_emod, Int.zero_mul, Int.add_zero, Int.add_zero, fe, Int.add_zero]
/-! ### degrees -/
theorem sumI_list (g : Int → Int) : ∀ n : Nat, ((List.range n).map fun j : Nat => g (j : Int)).sum = sumI g 0 n
  | 0 => rfl
  | n + 1 => by
    rw [List.range_succ, List.map_append, List.sum_append, sumI_list g n]
    show _ + (g (n : Int) + 0) = sumI g 0 n + g (0 + (n : Int))
    rw [Int.add_zero, Int.zero_add]
section
variable {l h s r W y B : Int}
theorem deg_row (hs : 0 < s) (hW : 0 < W) (h0 : 0 ≤ r) (h1 : r < s) (hB : 0 < B) (a b w : Int) : degL (rowC l h s r W a b w) B = DGW l h s r W (a * s) B w := by
  unfold rowC
  rw [K39.row_eq hW]
  exact degL_lanes hs h0 h1 hB
theorem mW_in (hs : 0 < s) (hW : 0 < W) (h0 : 0 ≤ r) (h1 : r < s) {x : Int} (hx : x ∈ listed l h s r) : 1 ≤ mW l h s r W (x / W) := by
  unfold mW
  rw [← listed_len hs h0 h1, ← K39.row_eq hW]
  have : x ∈ (listed l h s r).filter (fun z => decide (z / W = x / W)) := List.mem_filter.mpr ⟨hx, decide_eq_true rfl⟩
  have := List.length_pos_of_mem this
  omega
theorem mW_out (hs : 0 < s) (hW : 0 < W) (h0 : 0 ≤ r) (h1 : r < s) {j : Int} (hj : j ∉ wvs l h s r W) : mW l h s r W j = 0 := by
  unfold mW
  rw [← listed_len hs h0 h1, ← K39.row_eq hW]
  have : (listed l h s r).filter (fun z => decide (z / W = j)) = [] := by
    refine List.eq_nil_iff_forall_not_mem.mpr fun x hx => ?_
    obtain ⟨h1, h2⟩ := List.mem_filter.mp hx
    exact hj (mem_wvs.mpr ⟨x, h1, of_decide_eq_true h2⟩)
  rw [this]
  rfl
theorem dgw_out (hs : 0 < s) (hW : 0 < W) (h0 : 0 ≤ r) (h1 : r < s) {j : Int} (hj : j ∉ wvs l h s r W) : DGW l h s r W y B j = 0 := by
  unfold DGW
  rw [mW_out hs hW h0 h1 hj, degF_zero]
/-- the degrees of all waves together -/
def SD (s r W y B l h : Int) : Int := ((wvs l h s r W).map fun w => DGW l h s r W y B w).sum
theorem sd_sum (hs : 0 < s) (hW : 0 < W) (h0 : 0 ≤ r) (h1 : r < s) (l0 : 0 ≤ l) {n : Nat} (hn : h ≤ W * (n : Int)) : SD s r W y B l h = sumI (DGW l h s r W y B) 0 n := by
  unfold SD
  rw [sum_sub (ws := wvs l h s r W) (n := n) (f := fun w => DGW l h s r W y B w) (once_nd _), sumI_list]
  · intro w hw
    obtain ⟨x, hx, rfl⟩ := mem_wvs.mp hw
    rw [mem_listed] at hx
    refine ⟨Int.ediv_nonneg (by omega) (by omega), ?_⟩
    exact Int.ediv_lt_of_lt_mul hW (by rw [Int.mul_comm]; omega)
  · intro j _ hj
    exact dgw_out hs hW h0 h1 hj
theorem big_n (hW : 0 < W) (h : Int) (k : Nat) : h ≤ W * ((h.toNat + k : Nat) : Int) := by
  have : (1 : Int) * ((h.toNat + k : Nat) : Int) ≤ W * ((h.toNat + k : Nat) : Int) := Int.mul_le_mul_of_nonneg_right (by omega) (by omega)
  omega
theorem sd_empty (hs : 0 < s) (h0 : 0 ≤ r) (h1 : r < s) (l : Int) : SD s r W y B l l = 0 := by
  have : wvs l l s r W = [] := by
    refine List.eq_nil_iff_forall_not_mem.mpr fun w hw => ?_
    obtain ⟨x, hx, _⟩ := mem_wvs.mp hw
    rw [mem_listed] at hx
    omega
  unfold SD
  rw [this]
  rfl
theorem sd_add (hs : 0 < s) (hW : 0 < W) (h0 : 0 ≤ r) (h1 : r < s) (l c h : Int) (l0 : 0 ≤ l) (hc : c % W = 0) (lc : l ≤ c) (ch : c ≤ h) : SD s r W y B l c + SD s r W y B c h = SD s r W y B l h := by
  have n1 := big_n hW h 0
  rw [sd_sum hs hW h0 h1 l0 (n := h.toNat + 0) (by omega), sd_sum hs hW h0 h1 (by omega) (n := h.toNat + 0) n1, sd_sum hs hW h0 h1 l0 (n := h.toNat + 0) n1]
  exact deg_cut hs hW h0 h1 (.inl hc) lc ch y B _
theorem dgw_shift {d k : Int} (hs : 0 < s) (hd : d % s = 0) (hk : d = W * k) (j : Int) : DGW (l + d) (h + d) s r W y B (j + k) = DGW l h s r W y B j := by
  unfold DGW mW
  have e : W * (j + k) = W * j + d := by rw [Int.mul_add, hk]
  rw [e, show max (l + d) (W * j + d) = max l (W * j) + d by omega, show min (h + d) (W * j + d + W) = min h (W * j + W) + d by omega, lanes_shift hd]
theorem sd_shift {d : Int} (hs : 0 < s) (hW : 0 < W) (h0 : 0 ≤ r) (h1 : r < s) (l0 : 0 ≤ l) (lh : l ≤ h) (d0 : 0 ≤ d) (hd : d % s = 0) (dW : d % W = 0) : SD s r W y B (l + d) (h + d) = SD s r W y B l h := by
  have e := Int.mul_ediv_add_emod d W
  rw [dW, Int.add_zero] at e
  obtain ⟨k, hk⟩ := Int.eq_ofNat_of_zero_le (Int.ediv_nonneg d0 (show 0 ≤ W by omega))
  rw [hk] at e
  have n1 := big_n hW h 0
  rw [sd_sum hs hW h0 h1 l0 (n := h.toNat + 0) n1, sd_sum (l := l + d) (h := h + d) hs hW h0 h1 (by omega) (n := k + (h.toNat + 0)) (by
    rw [show ((k + (h.toNat + 0) : Nat) : Int) = (k : Int) + ((h.toNat + 0 : Nat) : Int) by omega, Int.mul_add, e]
    omega), sumI_add]
  have z : sumI (DGW (l + d) (h + d) s r W y B) 0 k = 0 := sumI_zero fun i hi => by
    rw [Int.zero_add]
    unfold DGW mW
    have m1 : W * ((i : Int) + 1) ≤ W * (k : Int) := Int.mul_le_mul_of_nonneg_left (by omega) (by omega)
    rw [Int.mul_add, Int.mul_one] at m1
    rw [K39.lanes_zero hs (by omega), degF_zero]
  rw [z, Int.zero_add, show (0 + (k : Int)) = 0 + (k : Int) from rfl, sumI_shift]
  exact sumI_congr fun i _ => by
    show DGW (l + d) (h + d) s r W y B (0 + (i : Int) + (k : Int)) = _
    exact dgw_shift hs hd e.symm _
/-! ### the greatest of all -/
structure IsMax (f : Int → Int) (v : Int) : Prop where
  v0 : 0 ≤ v
  up : ∀ j, f j ≤ v
  at_ : v = 0 ∨ ∃ j, f j = v
theorem IsMax.uniq {f : Int → Int} {v w : Int} (a : IsMax f v) (b : IsMax f w) : v = w := by
  have le : ∀ {v w : Int}, IsMax f v → IsMax f w → v ≤ w := fun {v w} a b => by
    rcases a.at_ with e | ⟨j, e⟩
    · rw [e]; exact b.v0
    · rw [← e]; exact b.up j
  have := le a b
  have := le b a
  omega
theorem max_cut (hs : 0 < s) (hW : 0 < W) (h0 : 0 ≤ r) (h1 : r < s) {c : Int} (hc : c % W = 0 ∨ c = h) (lc : l ≤ c) (ch : c ≤ h) {v w : Int} (a : IsMax (DGW l c s r W y B) v) (b : IsMax (DGW c h s r W y B) w) : IsMax (DGW l h s r W y B) (if w > v then w else v) := by
  have v0 := a.v0
  have w0 := b.v0
  have cut : ∀ j, (DGW l c s r W y B j = DGW l h s r W y B j ∧ DGW c h s r W y B j = 0) ∨ (DGW l c s r W y B j = 0 ∧ DGW c h s r W y B j = DGW l h s r W y B j) := fun j => by
    unfold DGW
    rcases mW_cut hs hW h0 h1 hc lc ch j with ⟨e1, e2⟩ | ⟨e1, e2⟩
    · exact .inl ⟨by rw [e1], by rw [e2, degF_zero]⟩
    · exact .inr ⟨by rw [e1, degF_zero], by rw [e2]⟩
  refine ⟨by split <;> omega, fun j => ?_, ?_⟩
  · have a1 := a.up j
    have b1 := b.up j
    rcases cut j with ⟨e1, e2⟩ | ⟨e1, e2⟩
    · rw [← e1]; split <;> omega
    · rw [← e2]; split <;> omega
  · split
    · rcases b.at_ with e | ⟨j, e⟩
      · exact .inl e
      · by_cases z : w = 0
        · exact .inl z
        · refine .inr ⟨j, ?_⟩
          rcases cut j with ⟨_, e2⟩ | ⟨_, e2⟩
          · omega
          · rw [← e2]; exact e
    · rcases a.at_ with e | ⟨j, e⟩
      · exact .inl e
      · by_cases z : v = 0
        · exact .inl z
        · refine .inr ⟨j, ?_⟩
          rcases cut j with ⟨e1, _⟩ | ⟨e1, _⟩
          · rw [← e1]; exact e
          · omega
theorem max_shift {d k v : Int} (hs : 0 < s) (hd : d % s = 0) (hk : d = W * k) (a : IsMax (DGW l h s r W y B) v) : IsMax (DGW (l + d) (h + d) s r W y B) v := by
  have e : ∀ j, DGW (l + d) (h + d) s r W y B j = DGW l h s r W y B (j - k) := fun j => by
    have := dgw_shift (l := l) (h := h) (r := r) (y := y) (B := B) hs hd hk (j - k)
    rw [show j - k + k = j by omega] at this
    exact this
  refine ⟨a.v0, fun j => by rw [e]; exact a.up _, ?_⟩
  rcases a.at_ with z | ⟨j, z⟩
  · exact .inl z
  · exact .inr ⟨j + k, by rw [e, show j + k - k = j by omega]; exact z⟩
theorem max_empty (hs : 0 < s) (hW : 0 < W) (h0 : 0 ≤ r) (h1 : r < s) (l : Int) : IsMax (DGW l l s r W y B) 0 := by
  refine ⟨Int.le_refl 0, fun j => ?_, .inl rfl⟩
  rw [dgw_out hs hW h0 h1 (fun hw => by
    obtain ⟨x, hx, _⟩ := mem_wvs.mp hw
    rw [mem_listed] at hx
    omega)]
  exact Int.le_refl 0
theorem max_period {P A v : Int} (hs : 0 < s) (hW : 0 < W) (h0 : 0 ≤ r) (h1 : r < s) (hA : A % W = 0) (P0 : 0 < P) (Ps : P % s = 0) (PW : P % W = 0) (a : IsMax (DGW A (A + P) s r W y B) v) : ∀ m : Nat, IsMax (DGW A (A + P * ((m + 1 : Nat) : Int)) s r W y B) v
  | 0 => by
    rw [show ((0 + 1 : Nat) : Int) = 1 from rfl, Int.mul_one]
    exact a
  | m + 1 => by
    have ih := max_period hs hW h0 h1 hA P0 Ps PW a m
    have k0 : 0 ≤ P * ((m + 1 : Nat) : Int) := Int.mul_nonneg (by omega) (by omega)
    have dv : ∀ {z : Int}, P % z = 0 → (P * ((m + 1 : Nat) : Int)) % z = 0 := fun {z} h => by rw [Int.mul_emod, h, Int.zero_mul, Int.zero_emod]
    have ew := Int.mul_ediv_add_emod (P * ((m + 1 : Nat) : Int)) W
    rw [dv PW, Int.add_zero] at ew
    have sh := max_shift (d := P * ((m + 1 : Nat) : Int)) (k := P * ((m + 1 : Nat) : Int) / W) hs (dv Ps) ew.symm a
    have e : A + P + P * ((m + 1 : Nat) : Int) = A + P * ((m + 1 + 1 : Nat) : Int) := by
      rw [show ((m + 1 + 1 : Nat) : Int) = ((m + 1 : Nat) : Int) + 1 by omega, Int.mul_add, Int.mul_one]
      omega
    rw [e] at sh
    have c := max_cut hs hW h0 h1 (c := A + P * ((m + 1 : Nat) : Int)) (.inl (by rw [Int.add_emod, hA, dv PW]; simp)) (by omega) (by omega) ih sh
    rw [if_neg (by omega)] at c
    exact c
/-- the greatest degree of the waves with lanes -/
def MX (s r W y B l h : Int) : Int := maxI (0 :: (wvs l h s r W).map fun w => DGW l h s r W y B w)
theorem mx_is (hs : 0 < s) (hW : 0 < W) (h0 : 0 ≤ r) (h1 : r < s) : IsMax (DGW l h s r W y B) (MX s r W y B l h) := by
  obtain ⟨m1, m2⟩ := maxI_mem (l := 0 :: (wvs l h s r W).map fun w => DGW l h s r W y B w) (by simp)
  have z := m2 0 List.mem_cons_self
  refine ⟨z, fun j => ?_, ?_⟩
  · by_cases hj : j ∈ wvs l h s r W
    · exact m2 _ (List.mem_cons_of_mem _ (List.mem_map.mpr ⟨j, hj, rfl⟩))
    · rw [dgw_out hs hW h0 h1 hj]
      exact z
  · rcases List.mem_cons.mp m1 with e | e
    · exact .inl e
    · obtain ⟨w, _, e⟩ := List.mem_map.mp e
      exact .inr ⟨w, e⟩
theorem waves_nz (hs : 0 < s) (h0 : 0 ≤ r) (h1 : r < s) (hw : 0 < wavesWith l h s r W) : ∃ x, x ∈ listed l h s r := by
  have ne : lanesOf l h s r ≠ 0 := fun z => by
    unfold wavesWith at hw
    rw [if_pos (.inl z), z] at hw
    exact absurd hw (by decide)
  rw [← listed_len hs h0 h1] at ne
  cases e : listed l h s r with
  | nil => rw [e] at ne; exact absurd rfl ne
  | cons x t => exact ⟨x, List.mem_cons_self⟩
/-- the greatest that the program finds -/
theorem gr_is {a : Int} (g : PM.Gs l h s r) (hW : 1 ≤ W ∧ W ≤ 32) (hB : 0 < B) : IsMax (DGW l h s r W (a * s) B) (maxI (0 :: ((PM.dgs l h s r a W B).filter fun p => decide (p.2 > 0)).map (·.1))) := by
  have s0 := g.s0
  obtain ⟨m1, m2⟩ := maxI_mem (l := 0 :: ((PM.dgs l h s r a W B).filter fun p : Int × Int => decide (p.2 > 0)).map fun p : Int × Int => p.1) (by simp)
  refine ⟨m2 0 List.mem_cons_self, fun j => PM.dgs_ge g hW hB j, ?_⟩
  rcases List.mem_cons.mp m1 with e | e
  · exact .inl e
  · obtain ⟨p, hp, e⟩ := List.mem_map.mp e
    obtain ⟨hp, hq⟩ := List.mem_filter.mp hp
    have hq : p.2 > 0 := of_decide_eq_true hq
    right
    rw [← e]
    unfold PM.dgs at hp
    split at hp
    · rename_i c
      rw [List.mem_singleton] at hp
      subst hp
      obtain ⟨x, hx⟩ := waves_nz (W := W) s0 g.r0 g.r1 hq
      have m1 := mW_in (W := W) s0 (by omega) g.r0 g.r1 hx
      refine ⟨x / W, ?_⟩
      unfold DGW
      rcases c with c | c
      · rw [c, Int.zero_mul, PM.degF_flat]
        show min _ 1 = (1 : Int)
        omega
      · have m2 := PM.mW_lonely (l := l) (h := h) s0 (show 0 < W by omega) g.r0 g.r1 c (x / W)
        rw [PM.degF_small (by omega) m2 hB]
        show _ = (1 : Int)
        omega
    · split at hp
      · cases hp
      · obtain ⟨t, _, rfl⟩ := List.mem_map.mp hp
        exact ⟨t.1, rfl⟩
/-- the sum that the program finds -/
theorem tot_is {a : Int} (g : PM.Gs l h s r) (hW : 1 ≤ W) (hB : 0 < B) : ((PM.dgs l h s r a W B).map fun p => p.1 * p.2).sum = SD s r W (a * s) B l h := by
  have n1 := big_n (W := W) (by omega) h 0
  rw [sd_sum g.s0 (by omega) g.r0 g.r1 g.l0 n1]
  exact PM.sum_dgs g hW hB n1
/-- only the difference's remainder by the banks counts -/
theorem degF_mod {m y y2 b : Int} (hb : 0 < b) (hy : y ≠ 0) (hy2 : y2 ≠ 0) (e : y % b = y2 % b) : degF m y b = degF m y2 b := by
  have sp : spread b y = spread b y2 := by
    have h : ∀ y : Int, Int.gcd y b = Int.gcd (y % b) b := fun y => by
      have em := Int.mul_ediv_add_emod y b
      refine Nat.dvd_antisymm (Int.natCast_dvd_natCast.mp (Int.dvd_coe_gcd ?_ (Int.gcd_dvd_right ..))) (Int.natCast_dvd_natCast.mp (Int.dvd_coe_gcd ?_ (Int.gcd_dvd_right ..)))
      · rw [show y % b = y - b * (y / b) by omega]
        exact Int.dvd_sub (Int.gcd_dvd_left ..) (Int.dvd_trans (Int.gcd_dvd_right ..) (Int.dvd_mul_right _ _))
      · have d : ((Int.gcd (y % b) b : Nat) : Int) ∣ b * (y / b) + y % b := Int.dvd_add (Int.dvd_trans (Int.gcd_dvd_right ..) (Int.dvd_mul_right _ _)) (Int.gcd_dvd_left ..)
        rw [em] at d
        exact d
    unfold spread
    rw [h y, h y2, e]
  unfold degF
  rw [sp]
  by_cases z : m = 0
  · rw [if_pos (.inl z), if_pos (.inl z)]
  · rw [if_neg (fun q => q.elim z hy), if_neg (fun q => q.elim z hy2)]
end
end PN
/-! PFD: dicts by numbers, evaluated: tables over a list of different numbers. -/
namespace PM
open PySem PySem.Spec PyProof.Rows L2 PL PN
def tabI (ks : List Int) (f : Int → PV) : List (Key × PV) := ks.map fun k => (Sum.inl k, f k)
theorem val_tab (f : Int → PV) (k : Int) : ∀ ks : List Int, valP (tabI ks f) (.inl k) = if k ∈ ks then some (f k) else none
  | [] => rfl
  | x :: r => by
    have ih := val_tab f k r
    by_cases e : x = k
    · subst e
      rw [if_pos List.mem_cons_self]
      simp [valP, tabI]
    · have : valP (tabI (x :: r) f) (.inl k) = valP (tabI r f) (.inl k) := by
        simp [valP, tabI, e]
      rw [this, ih]
      by_cases c : k ∈ r
      · rw [if_pos c, if_pos (List.mem_cons_of_mem _ c)]
      · rw [if_neg c, if_neg (fun z => (List.mem_cons.mp z).elim (fun q => e q.symm) c)]
theorem any_tab (f : Int → PV) (k : Int) (ks : List Int) : ((tabI ks f).any fun kv => decide (kv.1 = Sum.inl k)) = decide (k ∈ ks) := by
  rw [Bool.eq_iff_iff, List.any_eq_true, decide_eq_true_iff]
  constructor
  · rintro ⟨q, h1, h2⟩
    obtain ⟨x, hx, rfl⟩ := List.mem_map.mp h1
    have : x = k := by simpa using h2
    exact this ▸ hx
  · intro h
    exact ⟨(.inl k, f k), List.mem_map.mpr ⟨k, h, rfl⟩, by simp⟩
theorem put_tab (f : Int → PV) (k : Int) (v : PV) (ks : List Int) : putKP (tabI ks f) (.inl k) v = tabI (if k ∈ ks then ks else ks ++ [k]) (fun x => if x = k then v else f x) := by
  unfold putKP
  rw [any_tab]
  by_cases c : k ∈ ks
  · rw [if_pos (decide_eq_true c), if_pos c]
    unfold tabI
    rw [List.map_map]
    refine List.map_congr_left fun x _ => ?_
    by_cases e : x = k
    · simp [e]
    · simp [e]
  · rw [if_neg (by simpa using c), if_neg c]
    unfold tabI
    rw [List.map_append]
    congr 1
    · refine List.map_congr_left fun x hx => ?_
      have e : x ≠ k := fun z => c (z ▸ hx)
      simp [e]
    · simp
theorem once_snoc (l : List Int) (x : Int) : onceI (l ++ [x]) = if x ∈ onceI l then onceI l else onceI l ++ [x] := by
  have e : onceI (l ++ [x]) = PyProof.Rows.step_dedup (onceI l) x := by
    show (l ++ [x]).foldl _ _ = _
    rw [List.foldl_append]
    rfl
  rw [e]
  show (if (onceI l).any (· == x) then onceI l else onceI l ++ [x]) = _
  have : ((onceI l).any (· == x) = true) ↔ x ∈ onceI l := by
    rw [List.any_eq_true]
    exact ⟨fun ⟨y, h1, h2⟩ => (beq_iff_eq.mp h2) ▸ h1, fun h => ⟨x, h, by simp⟩⟩
  by_cases c : x ∈ onceI l
  · rw [if_pos (this.mpr c), if_pos c]
  · rw [if_neg (fun z => c (this.mp z)), if_neg c]
theorem put_once (f : Int → PV) (k : Int) (v : PV) (l : List Int) : putKP (tabI (onceI l) f) (.inl k) v = tabI (onceI (l ++ [k])) (fun x => if x = k then v else f x) := by
  rw [put_tab, once_snoc]
theorem tab_congr {ks : List Int} {f g : Int → PV} (h : ∀ k ∈ ks, f k = g k) : tabI ks f = tabI ks g := List.map_congr_left fun k hk => by rw [h k hk]
theorem zip_tab : ∀ l : List (Key × PV), (l.map (·.1)).zip (l.map (·.2)) = l
  | [] => rfl
  | (a, b) :: r => by
    rw [List.map_cons, List.map_cons, List.zip_cons_cons, zip_tab r]
theorem keys_tab (ks : List Int) (f : Int → PV) : ((tabI ks f).map (·.1)).map keyP = ks.map PV.int := by
  unfold tabI
  rw [List.map_map, List.map_map]
  rfl
/-! ### evaluated -/
theorem getD_at {st : Stt} {i : Nat} {k : MKey} {kvs : List (Key × PV)} {fk fz : Stt → Res PV} {j : Int} {z : PV} (h : getM st i = some (k, .dct kvs)) (hk : fk st = .ok (.int j) st) (hz : fz st = .ok z st) : eGetD i fk fz st = .ok ((valP kvs (.inl j)).getD z) st := by
  unfold eGetD
  rw [h]
  simp only [hk, Res.bind_ok, hz, h]
theorem putD_at {st s2 : Stt} {i : Nat} {k : MKey} {kvs : List (Key × PV)} {fk fv : Stt → Res PV} {j : Int} {p : PV} (hv : fv st = .ok p st) (h : getM st i = some (k, .dct kvs)) (hk : fk st = .ok (.int j) st) (hl : kvs.length < 16777216) (hs : setK st k (.dct (putKP kvs (.inl j) p)) = s2) : gPutD i fk fv st = .nx s2 := by
  unfold gPutD
  rw [hv]
  simp only [Res.fl, h, hk]
  rw [if_pos hl, hs]
theorem ixD_at {st : Stt} {fd fk : Stt → Res PV} {ks : List Int} {f : Int → PV} {j : Int} (hd : fd st = .ok (.dcv ((tabI ks f).map (·.1)) ((tabI ks f).map (·.2))) st) (hk : fk st = .ok (.int j) st) (hj : j ∈ ks) : eIxD fd fk st = .ok (f j) st := by
  unfold eIxD
  rw [hd, Res.bind_ok, hk, Res.bind_ok]
  show Res.opt st (valP (((tabI ks f).map (·.1)).zip ((tabI ks f).map (·.2))) (.inl j)) = _
  rw [zip_tab, val_tab, if_pos hj]
  rfl
theorem dctN_at {st s1 : Stt} {i : Nat} (hi : i < st.ro.length) (hs : setO i (.dct []) st = s1) : gAsgO i oDctN st = .nx s1 := by
  unfold gAsgO oDctN
  show (if i < st.ro.length then Fl.nx (setO i (.dct []) st) else _) = _
  rw [if_pos hi, hs]
/-- a list made over a dict's keys -/
theorem compD_at {st s1 : Stt} {i : Nat} {ks : List Int} {f : Int → PV} {G : Int → Int} {vs : List Nat} {a : PV → Stt → Option Stt} {fe : Stt → Res PV} (hi : st.ro[i]? = some (some (.own (.dct (tabI ks f))))) (hm : st.mu = []) (hv : (st.ro.set i none).all isVal = true)
    (hw : wipeS vs ⟨st.ro.set i (some (.val (.dcv ((tabI ks f).map (·.1)) ((tabI ks f).map (·.2))))), []⟩ = s1) (hl : ks.length ≤ 16777216) (il : i < st.ro.length)
    (h : ∀ x ∈ ks, ∃ s2, a (.int x) s1 = some s2 ∧ ∃ s3, fe s2 = .ok (.int (G x)) s3 ∧ wipeS vs s3 = s1) : eCompD i (oComp vs (iDcv (eVar i)) a tYesD fe) st = .ok (.lst (ks.map fun x => .int (G x))) st := by
  have e1 : iDcv (eVar i) ⟨st.ro.set i (some (.val (.dcv ((tabI ks f).map (·.1)) ((tabI ks f).map (·.2))))), []⟩ = .ok (ks.map PV.int) ⟨st.ro.set i (some (.val (.dcv ((tabI ks f).map (·.1)) ((tabI ks f).map (·.2))))), []⟩ := by
    unfold iDcv eVar
    rw [List.getElem?_set_self il]
    simp only [Res.bind_ok]
    rw [keys_tab]
  have e2 := compL_M (vs := vs) (a := a) (fe := fe) (s := s1) PV.int (fun x => PV.int (G x)) ks hl h
  have e3 : oComp vs (iDcv (eVar i)) a tYesD fe ⟨st.ro.set i (some (.val (.dcv ((tabI ks f).map (·.1)) ((tabI ks f).map (·.2))))), []⟩ = .ok (.lst (ks.map fun x => PV.int (G x))) (backS vs ⟨st.ro.set i (some (.val (.dcv ((tabI ks f).map (·.1)) ((tabI ks f).map (·.2))))), []⟩ s1) := by
    unfold oComp
    rw [e1, Res.bind_ok, hw, e2]
    rfl
  have e4 : allInt (ks.map fun x => PV.int (G x)) = some (ks.map G) := by
    have := allInt_map (ks.map G)
    rw [List.map_map] at this
    exact this
  unfold eCompD
  rw [hi]
  simp only
  rw [if_pos ⟨by rw [hm]; rfl, hv⟩, e3]
  simp only [e4]
/-- the greatest of lists with the same members -/
theorem maxI_congr {a b : List Int} (ha : a ≠ []) (h : ∀ x, x ∈ a ↔ x ∈ b) : maxI a = maxI b := by
  obtain ⟨h1, h2⟩ := maxI_mem ha
  have hb : b ≠ [] := fun z => by
    have := (h _).mp h1
    rw [z] at this
    cases this
  exact (maxI_is ((h _).mp h1) fun y hy => h2 y ((h _).mpr hy)).symm
theorem maxI_0 (l : List Int) : 0 ≤ maxI (0 :: l) := (maxI_mem (l := 0 :: l) (by simp)).2 0 List.mem_cons_self
end PM
/-! K46_L: what the law finds lane by lane, what it draws. -/
namespace K46
open PySem PySem.Spec PyProof.Rows L2 PL PN PM
local macro_rules | `(tactic| walk_at "ev") => `(tactic| try simp only [mOf, endF, start0, gSeq, gNop, gAsg, gRet, gRetO, gAsgO, gDrop, gIf, gOpt, gPar, gPar3, gAug, aName, asNil, asCons, aTup, aLst, setV, setO, eVar, eC, eBin, eUn, eTup, aNil, aCons, oLst, frz, eCall, oCall, avN, avK, permL, lNil, lPv, lSl, tOf, tTru, tNt, tAn, tOrr, eIf, eAn, eOr, eNt, eChain, eCallB, eIxM, gSetIx, getM, pTru, pAdd, pSub, pMul, pFdiv, pMod, pPow, pNeg, pLt, pLe, pGt, pGe, pIs, pIsNot, pAddI, pIx, pLen, pAbs, pMax2, pMin2, Res.bind_ok, Res.bind_ex, Res.bind_stuck, Res.fl_ok, Res.fl_ex, Res.fl_stuck, Res.opt_some, Res.opt_none, lowerA, PL.keyOf, getK, getAll, setAll, setK, distinct, List.map_cons, List.map_nil, List.length_cons, List.length_nil, List.replicate, List.cons_append, List.nil_append, List.append_nil, List.getElem?_cons_zero, List.getElem?_cons_succ, List.getElem?_nil, List.set_cons_zero, List.set_cons_succ, List.filterMap_cons, List.filterMap_nil, Option.bind_some, Option.map_some, Option.elim_some, if_true, if_false, Nat.reduceAdd, Nat.reduceSub, Nat.reduceEqDiff, Nat.reduceLeDiff, ↓reduceIte, Bool.false_eq_true, at0, at1, at2, at3, pEq, pNe, eqB_int, Option.some.injEq, decide_true, decide_false, not_true_eq_false, not_false_eq_true, Bool.and_true, ne_eq, reduceCtorEq, Bool.true_eq_false, Bool.not_true, Bool.not_false, frz, noEx, wipeS, wipeR, backS, backR, keepV, oComp, gFor, iAny, iRange1, iRange2, iRange3, iRangeW1, iRangeW2, eCallQ, oRgW2, oRgW, pInt1, iEnumQ, eDct, iTxt, eFld, eMake, gSetFld, eFldM, eTupV, putP, eLenSet, gFrz, Nat.reduceLT, oRg2, oRg1, oRg, tYesD, pIn, pNotIn, eSl, pNo, pSo, forL_nil, gApp, gParO, List.not_mem_nil, List.not_mem_nil])
local macro_rules | `(tactic| walk_at "evs") => `(tactic| simp only [*, mOf, endF, start0, gSeq, gNop, gAsg, gRet, gRetO, gAsgO, gDrop, gIf, gOpt, gPar, gPar3, gAug, aName, asNil, asCons, aTup, aLst, setV, setO, eVar, eC, eBin, eUn, eTup, aNil, aCons, oLst, frz, eCall, oCall, avN, avK, permL, lNil, lPv, lSl, tOf, tTru, tNt, tAn, tOrr, eIf, eAn, eOr, eNt, eChain, eCallB, eIxM, gSetIx, getM, pTru, pAdd, pSub, pMul, pFdiv, pMod, pPow, pNeg, pLt, pLe, pGt, pGe, pIs, pIsNot, pAddI, pIx, pLen, pAbs, pMax2, pMin2, Res.bind_ok, Res.bind_ex, Res.bind_stuck, Res.fl_ok, Res.fl_ex, Res.fl_stuck, Res.opt_some, Res.opt_none, lowerA, PL.keyOf, getK, getAll, setAll, setK, distinct, List.map_cons, List.map_nil, List.length_cons, List.length_nil, List.replicate, List.cons_append, List.nil_append, List.append_nil, List.getElem?_cons_zero, List.getElem?_cons_succ, List.getElem?_nil, List.set_cons_zero, List.set_cons_succ, List.filterMap_cons, List.filterMap_nil, Option.bind_some, Option.map_some, Option.elim_some, if_true, if_false, Nat.reduceAdd, Nat.reduceSub, Nat.reduceEqDiff, Nat.reduceLeDiff, ↓reduceIte, Bool.false_eq_true, at0, at1, at2, at3, pEq, pNe, eqB_int, Option.some.injEq, decide_true, decide_false, not_true_eq_false, not_false_eq_true, Bool.and_true, ne_eq, reduceCtorEq, Bool.true_eq_false, Bool.not_true, Bool.not_false, frz, noEx, wipeS, wipeR, backS, backR, keepV, oComp, gFor, iAny, iRange1, iRange2, iRange3, iRangeW1, iRangeW2, eCallQ, oRgW2, oRgW, pInt1, iEnumQ, eDct, iTxt, eFld, eMake, gSetFld, eFldM, eTupV, putP, eLenSet, gFrz, Nat.reduceLT, oRg2, oRg1, oRg, tYesD, pIn, pNotIn, eSl, pNo, pSo, forL_nil, gApp, gParO, List.not_mem_nil, List.not_mem_nil, eq_self, not_true_eq_false, not_false_eq_true, ix30, ix31, ix32, Bool.and_self, and_self, and_true, true_and])
noncomputable def l__law_own_1c : PV → Stt → Option Stt := (aName 5)
noncomputable def l__law_own_1d : Stt → Res Bool := (tOf (eBin pEq (eBin pMod (eVar 5) (eVar 3)) (eVar 4)))
noncomputable def l__law_own_1e : Stt → Res PV := (eVar 5)
noncomputable def q__law_own_1 : Stt → Fl := (gAsg (eVar 0) (aTup 4 (asCons (aName 1) (asCons (aName 2) (asCons (aName 3) (asCons (aName 4) asNil))))))
noncomputable def q__law_own_2 : Stt → Fl := (gRet (frz (oComp [5] (iRangeW2 (aCons (eVar 1) (aCons (eVar 2) aNil))) l__law_own_1c l__law_own_1d l__law_own_1e)))
theorem g__law_own_eq : g__law_own = (gSeq q__law_own_1 (gSeq q__law_own_2 gNop)) := rfl
noncomputable def l__law_common_1b : PV → Stt → Option Stt := (aName 3)
noncomputable def l__law_common_1c_s1 : Stt → Fl := (gIf (tOf (eBin pEq (eBin pMod (eVar 2) (eVar 1)) (eC (.int 0)))) (gSeq (gRet (eVar 2)) gNop) gNop)
noncomputable def l__law_common_1c_s2 : Stt → Fl := (gAsg (eBin pAdd (eVar 2) (eVar 0)) (aName 2))
noncomputable def l__law_common_1c : Stt → Fl := (gSeq l__law_common_1c_s1 (gSeq l__law_common_1c_s2 gNop))
noncomputable def q__law_common_1 : Stt → Fl := (gAsg (eVar 0) (aName 2))
noncomputable def q__law_common_2 : Stt → Fl := (gFor (iRangeW1 (aCons (eVar 1) aNil)) l__law_common_1b l__law_common_1c)
noncomputable def q__law_common_3 : Stt → Fl := (gRet (eVar 2))
theorem g__law_common_eq : g__law_common = (gSeq q__law_common_1 (gSeq q__law_common_2 (gSeq q__law_common_3 gNop))) := rfl
noncomputable def l__law_degree_1b : PV → Stt → Option Stt := (aName 3)
noncomputable def l__law_degree_1c_s1 : Stt → Fl := (gPutD 2 (eBin pMod (eVar 3) (eVar 1)) (eBin pAdd (eGetD 2 (eBin pMod (eVar 3) (eVar 1)) (eC (.int 0))) (eC (.int 1))))
noncomputable def l__law_degree_1c : Stt → Fl := (gSeq l__law_degree_1c_s1 gNop)
noncomputable def l__law_degree_2c : PV → Stt → Option Stt := (aName 4)
noncomputable def l__law_degree_2d : Stt → Res Bool := tYesD
noncomputable def l__law_degree_2e : Stt → Res PV := (eIxD (eVar 2) (eVar 4))
noncomputable def q__law_degree_1 : Stt → Fl := (gAsgO 2 oDctN)
noncomputable def q__law_degree_2 : Stt → Fl := (gFor (iAny (frz (oSortSet (eVar 0)))) l__law_degree_1b l__law_degree_1c)
noncomputable def q__law_degree_3 : Stt → Fl := (gRet (eCallB pMax1 (aCons (eBin pAdd (frz (oLst (aCons (eC (.int 0)) aNil))) (eCompD 2 (oComp [4] (iDcv (eVar 2)) l__law_degree_2c l__law_degree_2d l__law_degree_2e))) aNil)))
theorem g__law_degree_eq : g__law_degree = (gSeq q__law_degree_1 (gSeq q__law_degree_2 (gSeq q__law_degree_3 gNop))) := rfl
noncomputable def l__law_stretch_1b : PV → Stt → Option Stt := (aName 7)
noncomputable def l__law_stretch_1c_s1 : Stt → Fl := (gPutD 6 (eBin pFdiv (eVar 7) (eVar 3)) (eBin pAdd (eGetD 6 (eBin pFdiv (eVar 7) (eVar 3)) (frz (oLst aNil))) (frz (oLst (aCons (eBin pAdd (eBin pMul (eVar 1) (eVar 7)) (eVar 2)) aNil)))))
noncomputable def l__law_stretch_1c : Stt → Fl := (gSeq l__law_stretch_1c_s1 gNop)
noncomputable def l__law_stretch_2c : PV → Stt → Option Stt := (aName 10)
noncomputable def l__law_stretch_2d : Stt → Res Bool := tYesD
noncomputable def l__law_stretch_3c : PV → Stt → Option Stt := (aName 11)
noncomputable def l__law_stretch_3d : Stt → Res Bool := tYesD
noncomputable def l__law_stretch_3e : Stt → Res PV := (eBin pFdiv (eVar 11) (eVar 4))
noncomputable def l__law_stretch_2e : Stt → Res PV := (eLenSet (frz (oComp [11] (iAny (eIxD (eVar 6) (eVar 10))) l__law_stretch_3c l__law_stretch_3d l__law_stretch_3e)))
noncomputable def l__law_stretch_4c : PV → Stt → Option Stt := (aName 10)
noncomputable def l__law_stretch_4d : Stt → Res Bool := tYesD
noncomputable def l__law_stretch_4e : Stt → Res PV := (eCall m__law_degree (avN 2 (lPv (eIxD (eVar 6) (eVar 10)) (lPv (eVar 5) lNil))))
noncomputable def q__law_stretch_1 : Stt → Fl := (gAsgO 6 oDctN)
noncomputable def q__law_stretch_2 : Stt → Fl := (gFor (iAny (eCall m__law_own (avN 1 (lPv (eVar 0) lNil)))) l__law_stretch_1b l__law_stretch_1c)
noncomputable def q__law_stretch_3 : Stt → Fl := (gAsg (eCallB pSum (aCons (eCompD 6 (oComp [10] (iDcv (eVar 6)) l__law_stretch_2c l__law_stretch_2d l__law_stretch_2e)) aNil)) (aName 8))
noncomputable def q__law_stretch_4 : Stt → Fl := (gAsg (eCompD 6 (oComp [10] (iDcv (eVar 6)) l__law_stretch_4c l__law_stretch_4d l__law_stretch_4e)) (aName 9))
noncomputable def q__law_stretch_5 : Stt → Fl := (gRet (frz (oLst (aCons (eCallB pLen (aCons (eVar 9) aNil)) (aCons (eVar 8) (aCons (eCallB pSum (aCons (eVar 9) aNil)) (aCons (eCallB pMax1 (aCons (eBin pAdd (frz (oLst (aCons (eC (.int 0)) aNil))) (eVar 9)) aNil)) aNil)))))))
theorem g__law_stretch_eq : g__law_stretch = (gSeq q__law_stretch_1 (gSeq q__law_stretch_2 (gSeq q__law_stretch_3 (gSeq q__law_stretch_4 (gSeq q__law_stretch_5 gNop))))) := rfl
noncomputable def l__law_far_1b : PV → Stt → Option Stt := (aTup 3 (asCons (aName 16) (asCons (aName 17) (asCons (aName 18) asNil))))
noncomputable def l__law_far_2c : PV → Stt → Option Stt := (aName 21)
noncomputable def l__law_far_2d : Stt → Res Bool := tYesD
noncomputable def l__law_far_2e : Stt → Res PV := (eBin pAdd (eBin pIx (eVar 15) (eVar 21)) (eBin pMul (eVar 18) (eBin pIx (eVar 19) (eVar 21))))
noncomputable def l__law_far_1c_s1 : Stt → Fl := (gAsg (eTup (aCons (frz (oLst (aCons (eC (.int 0)) (aCons (eC (.int 0)) (aCons (eC (.int 0)) (aCons (eC (.int 0)) aNil)))))) (aCons (eTup (aCons (eVar 16) (aCons (eVar 17) (aCons (eVar 8) (aCons (eVar 9) aNil))))) aNil))) (aTup 2 (asCons (aName 19) (asCons (aName 20) asNil))))
noncomputable def l__law_far_1c_s2 : Stt → Fl := (gIf (tOf (eBin pGt (eVar 18) (eC (.int 0)))) (gSeq (gAsg (eCall m__law_stretch (avN 6 (lPv (eVar 20) (lPv (eVar 1) (lPv (eVar 2) (lPv (eVar 3) (lPv (eVar 4) (lPv (eVar 5) lNil)))))))) (aName 19)) gNop) gNop)
noncomputable def l__law_far_1c_s3 : Stt → Fl := (gAsg (eBin pAdd (frz (oComp [21] (iRangeW1 (aCons (eC (.int 3)) aNil)) l__law_far_2c l__law_far_2d l__law_far_2e)) (frz (oLst (aCons (eCallB pMax2 (aCons (eBin pIx (eVar 15) (eC (.int 3))) (aCons (eBin pIx (eVar 19) (eC (.int 3))) aNil))) aNil)))) (aName 15))
noncomputable def l__law_far_1c : Stt → Fl := (gSeq l__law_far_1c_s1 (gSeq l__law_far_1c_s2 (gSeq l__law_far_1c_s3 gNop)))
noncomputable def q__law_far_1 : Stt → Fl := (gAsg (eVar 0) (aTup 4 (asCons (aName 6) (asCons (aName 7) (asCons (aName 8) (asCons (aName 9) asNil))))))
noncomputable def q__law_far_2 : Stt → Fl := (gAsg (eCall m__law_common (avN 2 (lPv (eCall m__law_common (avN 2 (lPv (eVar 3) (lPv (eVar 8) lNil)))) (lPv (eCall m__law_common (avN 2 (lPv (eVar 4) (lPv (eVar 5) lNil)))) lNil)))) (aName 10))
noncomputable def q__law_far_3 : Stt → Fl := (gAsg (eCallB pMin2 (aCons (eVar 7) (aCons (eBin pMul (eBin pFdiv (eBin pSub (eBin pAdd (eVar 6) (eVar 3)) (eC (.int 1))) (eVar 3)) (eVar 3)) aNil))) (aName 11))
noncomputable def q__law_far_4 : Stt → Fl := (gPar 12 13 (aCons (eBin pFdiv (eBin pSub (eVar 7) (eVar 11)) (eVar 10)) (aCons (eBin pMod (eBin pSub (eVar 7) (eVar 11)) (eVar 10)) aNil)))
noncomputable def q__law_far_5 : Stt → Fl := (gAsg (frz (oLst (aCons (eTup (aCons (eVar 6) (aCons (eVar 11) (aCons (eC (.int 1)) aNil)))) (aCons (eTup (aCons (eVar 11) (aCons (eBin pAdd (eVar 11) (eVar 10)) (aCons (eVar 12) aNil)))) (aCons (eTup (aCons (eVar 11) (aCons (eBin pAdd (eVar 11) (eVar 13)) (aCons (eC (.int 1)) aNil)))) aNil))))) (aName 14))
noncomputable def q__law_far_6 : Stt → Fl := (gAsg (frz (oLst (aCons (eC (.int 0)) (aCons (eC (.int 0)) (aCons (eC (.int 0)) (aCons (eC (.int 0)) aNil)))))) (aName 15))
noncomputable def q__law_far_7 : Stt → Fl := (gFor (iAny (eVar 14)) l__law_far_1b l__law_far_1c)
noncomputable def q__law_far_8 : Stt → Fl := (gRet (eVar 15))
theorem g__law_far_eq : g__law_far = (gSeq q__law_far_1 (gSeq q__law_far_2 (gSeq q__law_far_3 (gSeq q__law_far_4 (gSeq q__law_far_5 (gSeq q__law_far_6 (gSeq q__law_far_7 (gSeq q__law_far_8 gNop)))))))) := rfl
noncomputable def q__law_far_guard_1 : Stt → Fl := (gAsg (eBin pIx (frz (oLst (aCons (eBin pPow (eC (.int 10)) (eC (.int 9))) (aCons (eBin pPow (eC (.int 10)) (eC (.int 12))) (aCons (eBin pPow (eC (.int 10)) (eC (.int 17))) (aCons (eBin pPow (eC (.int 10)) (eC (.int 24))) (aCons (eBin pPow (eC (.int 10)) (eC (.int 30))) aNil))))))) (eCall PM.m__law_draw_2 (avN 2 (lSl 0 (lPv (eC (.int 5)) lNil))))) (aName 1))
noncomputable def q__law_far_guard_2 : Stt → Fl := (gAsg (eBin pSub (eVar 1) (eCall PM.m__law_draw_2 (avN 2 (lSl 0 (lPv (eBin pPow (eC (.int 10)) (eC (.int 6))) lNil))))) (aName 2))
noncomputable def q__law_far_guard_3 : Stt → Fl := (gAsg (eBin pIx (frz (oLst (aCons (eC (.int 0)) (aCons (eCall PM.m__law_draw_2 (avN 2 (lSl 0 (lPv (eC (.int 100)) lNil)))) (aCons (eCall PM.m__law_draw_2 (avN 2 (lSl 0 (lPv (eVar 2) lNil)))) aNil))))) (eCall PM.m__law_draw_2 (avN 2 (lSl 0 (lPv (eC (.int 3)) lNil))))) (aName 3))
noncomputable def q__law_far_guard_4 : Stt → Fl := (gAsg (eBin pIx (frz (oLst (aCons (eVar 2) (aCons (eBin pAdd (eVar 3) (eCall PM.m__law_draw_2 (avN 2 (lSl 0 (lPv (eBin pAdd (eBin pSub (eVar 2) (eVar 3)) (eC (.int 1))) lNil))))) aNil)))) (eCall PM.m__law_draw_2 (avN 2 (lSl 0 (lPv (eC (.int 2)) lNil))))) (aName 4))
noncomputable def q__law_far_guard_5 : Stt → Fl := (gAsg (eBin pIx (frz (oLst (aCons (eC (.int 1)) (aCons (eC (.int 1)) (aCons (eC (.int 2)) (aCons (eC (.int 3)) (aCons (eC (.int 5)) (aCons (eC (.int 7)) (aCons (eBin pAdd (eC (.int 8)) (eCall PM.m__law_draw_2 (avN 2 (lSl 0 (lPv (eC (.int 24)) lNil))))) aNil))))))))) (eCall PM.m__law_draw_2 (avN 2 (lSl 0 (lPv (eC (.int 7)) lNil))))) (aName 5))
noncomputable def q__law_far_guard_6 : Stt → Fl := (gRet (eTup (aCons (eTup (aCons (eVar 3) (aCons (eVar 4) (aCons (eVar 5) (aCons (eCall PM.m__law_draw_2 (avN 2 (lSl 0 (lPv (eVar 5) lNil)))) aNil))))) (aCons (eVar 2) aNil))))
theorem g__law_far_guard_eq : g__law_far_guard = (gSeq q__law_far_guard_1 (gSeq q__law_far_guard_2 (gSeq q__law_far_guard_3 (gSeq q__law_far_guard_4 (gSeq q__law_far_guard_5 (gSeq q__law_far_guard_6 gNop)))))) := rfl
noncomputable def q__law_pair_1 : Stt → Fl := (gRet (eTup (aCons (eBin pIx (frz (oLst (aCons (eC (.int 1)) (aCons (eC (.int 1)) (aCons (eUn pNeg (eC (.int 1))) (aCons (eC (.int 0)) (aCons (eC (.int 2)) (aCons (eUn pNeg (eC (.int 2))) (aCons (eC (.int 3)) (aCons (eUn pNeg (eC (.int 3))) aNil)))))))))) (eCall PM.m__law_draw_2 (avN 2 (lSl 0 (lPv (eC (.int 8)) lNil))))) (aCons (eBin pSub (eCall PM.m__law_draw_2 (avN 2 (lSl 0 (lPv (eBin pAdd (eBin pMul (eC (.int 2)) (eVar 1)) (eC (.int 1))) lNil)))) (eVar 1)) aNil))))
theorem g__law_pair_eq : g__law_pair = (gSeq q__law_pair_1 gNop) := rfl
theorem atI_mem (l : List Int) (d : Int) (h0 : 0 ≤ d) (h1 : d < l.length) : ∃ v ∈ l, atI (l.map PV.int) d = some (.int v) := by
  obtain ⟨i, rfl⟩ := Int.eq_ofNat_of_zero_le h0
  have hi : i < l.length := by
    have : ((i : Nat) : Int) < (l.length : Int) := h1
    omega
  refine ⟨l[i], List.getElem_mem hi, atI_at ?_⟩
  rw [List.getElem?_map, List.getElem?_eq_getElem hi]
  rfl
theorem sm {x : Int} (h0 : 0 ≤ x) (h : x ≤ 1000) : x.natAbs < 2 ^ 8000 := Nat.lt_of_le_of_lt (m := 1000) (by omega) (by decide +kernel)
theorem e_pair {k : Nat} {m : MO} (hp : Pool k m) (hk : k < 2 ^ 50) : ∃ a b m', m__law_pair [.bor 0, .val (.int 40)] [m] = .ok (.tup [.int a, .int b]) [m'] ∧ -3 ≤ a ∧ a ≤ 3 ∧ -40 ≤ b ∧ b ≤ 40 ∧ Pool (k + 2) m' := by
  obtain ⟨d1, m1, e1, a1, z1, p1⟩ := e_pdraw hp (by omega) 8 (by decide) (by decide +kernel)
  obtain ⟨a, ha, e2⟩ := atI_mem [1, 1, -1, 0, 2, -2, 3, -3] d1 a1 (by simpa using z1)
  obtain ⟨d2, m2, e3, a2, z2, p2⟩ := e_pdraw p1 (by omega) (2 * 40 + 1) (by decide) (by decide +kernel)
  have q : -3 ≤ a ∧ a ≤ 3 := by simp at ha; omega
  refine ⟨a, d2 - 40, m2, ?_, q.1, q.2, by omega, by omega, p2⟩
  simp only [List.map_cons, List.map_nil] at e2
  have k1 : okMul 2 40 = true := by decide +kernel
  clear hp hk p1 p2 a1 a2 z1 z2 ha q
  unfold m__law_pair
  rw [g__law_pair_eq]
  unfold q__law_pair_1
  iterate 6 (walk_at "ev"; try walk_at "evs")
theorem modI {x y : Int} (h : 0 < y) : pMod (.int x) (.int y) = some (.int (x % y)) := by
  show (if y ≠ 0 then some (PV.int (x.fmod y)) else none) = _
  rw [if_pos (by omega), Int.fmod_eq_emod_of_nonneg _ (by omega)]
theorem divI {x y : Int} (h : 0 < y) (hd : okDiv y = true) : pFdiv (.int x) (.int y) = some (.int (x / y)) := by
  show (if okDiv y = true then some (PV.int (x.fdiv y)) else none) = _
  rw [if_pos hd, Int.fdiv_eq_ediv_of_nonneg _ (by omega)]
theorem okD {y : Int} (h0 : 0 < y) (h : y ≤ 10000000000000000000000000000000) : okDiv y = true := okDiv_of (b := 4000) (by omega) (Nat.lt_of_le_of_lt (m := 10000000000000000000000000000000) (by omega) (by decide +kernel)) (by decide) (by decide)
theorem anyI {st : Stt} {fa : Stt → Res PV} {l : List PV} (h : fa st = .ok (.lst l) st) : iAny fa st = .ok l st := by
  unfold iAny
  rw [h]
  rfl
theorem rngC {k : Int} {n : Nat} : rng k (n + 1) = .int k :: rng (k + 1) n := by
  unfold rng
  rw [List.range_succ_eq_map, List.map_cons, List.map_map]
  congr 1
  · show PV.int (k + 0) = _
    rw [Int.add_zero]
  · exact List.map_congr_left fun i _ => by
      show PV.int (k + ((i + 1 : Nat) : Int)) = PV.int (k + 1 + (i : Int))
      congr 1
      omega
theorem e_own {l h s r : Int} (s0 : 0 < s) (hz : h - l ≤ 1000000) : m__law_own [.val (gt l h s r)] [] = .ok (.lst ((listed l h s r).map PV.int)) [] := by
  have key := compL_F (vs := [5]) (a := l__law_own_1c) (ft := l__law_own_1d) (fe := l__law_own_1e) (s := ⟨[some (.val (gt l h s r)), some (.val (.int (l))), some (.val (.int (h))), some (.val (.int (s))), some (.val (.int (r))), none], []⟩) PV.int PV.int (fun x => decide (x % s = r)) (seqI l h) [] (by
    rw [List.length_nil]
    unfold seqI
    rw [List.length_map, List.length_range]
    omega) (fun x hx => ⟨⟨[some (.val (gt l h s r)), some (.val (.int (l))), some (.val (.int (h))), some (.val (.int (s))), some (.val (.int (r))), some (.val (.int (x)))], []⟩, ⟨[some (.val (gt l h s r)), some (.val (.int (l))), some (.val (.int (h))), some (.val (.int (s))), some (.val (.int (r))), some (.val (.int (x)))], []⟩, rfl, eq_z (p := .int (x % s)) (q := .int r) (bin_at (p := .int x) (q := .int s) rfl rfl (modI s0)) rfl (eqB_int _ _), fun _ => rfl, fun _ => ⟨⟨[some (.val (gt l h s r)), some (.val (.int (l))), some (.val (.int (h))), some (.val (.int (s))), some (.val (.int (r))), some (.val (.int (x)))], []⟩, rfl, rfl⟩⟩)
  rw [List.nil_append, ← rng_seqI] at key
  have t1 : q__law_own_1 ⟨[some (.val (gt l h s r)), none, none, none, none, none], []⟩ = .nx ⟨[some (.val (gt l h s r)), some (.val (.int (l))), some (.val (.int (h))), some (.val (.int (s))), some (.val (.int (r))), none], []⟩ := rfl
  have t2 : q__law_own_2 ⟨[some (.val (gt l h s r)), some (.val (.int (l))), some (.val (.int (h))), some (.val (.int (s))), some (.val (.int (r))), none], []⟩ = .rt (.lst ((listed l h s r).map PV.int)) ⟨[some (.val (gt l h s r)), some (.val (.int (l))), some (.val (.int (h))), some (.val (.int (s))), some (.val (.int (r))), none], []⟩ := ret_at (comp_at (l := rng l (h - l).toNat) (s1 := ⟨[some (.val (gt l h s r)), some (.val (.int (l))), some (.val (.int (h))), some (.val (.int (s))), some (.val (.int (r))), none], []⟩) rfl key rfl)
  unfold m__law_own
  rw [g__law_own_eq]
  simp only [mOf, start0, List.map_cons, List.map_nil, List.length_cons, List.length_nil, Nat.reduceAdd, Nat.reduceSub, List.replicate, List.cons_append, List.nil_append]
  rw [seq_nx t1, seq_rt t2]
  rfl
theorem common_loop {x y : Int} (x0 : 1 ≤ x) (y0 : 1 ≤ y) : ∀ (n k : Nat) (w : Option SV), ((k + n : Nat) : Int) = y → 0 < n → ∃ (P : Int) (s' : Stt), forL l__law_common_1b l__law_common_1c (rng (k : Nat) n) ⟨[some (.val (.int (x))), some (.val (.int (y))), some (.val (.int (x * ((k : Nat) + 1)))), w], []⟩ = .rt (.int P) s' ∧ s'.mu = [] ∧ 1 ≤ P ∧ P ≤ x * y ∧ P % x = 0 ∧ P % y = 0
  | 0, k, w, _, h => absurd h (by omega)
  | n + 1, k, w, hk, _ => by
    rw [rngC, forL_cons _ _ _ _ _ _ (show l__law_common_1b (.int (k : Nat)) ⟨[some (.val (.int (x))), some (.val (.int (y))), some (.val (.int (x * ((k : Nat) + 1)))), w], []⟩ = some ⟨[some (.val (.int (x))), some (.val (.int (y))), some (.val (.int (x * ((k : Nat) + 1)))), some (.val (.int ((k : Nat))))], []⟩ from rfl)]
    have tst : tOf (eBin pEq (eBin pMod (eVar 2) (eVar 1)) (eC (.int 0))) ⟨[some (.val (.int (x))), some (.val (.int (y))), some (.val (.int (x * ((k : Nat) + 1)))), some (.val (.int ((k : Nat))))], []⟩ = .ok ((x * ((k : Nat) + 1)) % y == 0) ⟨[some (.val (.int (x))), some (.val (.int (y))), some (.val (.int (x * ((k : Nat) + 1)))), some (.val (.int ((k : Nat))))], []⟩ := eq_z (p := .int ((x * ((k : Nat) + 1)) % y)) (q := .int 0) (bin_at (p := .int (x * ((k : Nat) + 1))) (q := .int y) rfl rfl (modI (by omega))) rfl (eqB_int _ _)
    have m0 : x * ((k : Nat) + 1) ≤ x * y := Int.mul_le_mul_of_nonneg_left (by omega) (by omega)
    have m1 : 1 * 1 ≤ x * (((k : Nat) : Int) + 1) := Int.mul_le_mul x0 (by omega) (by omega) (by omega)
    by_cases e : (x * ((k : Nat) + 1)) % y = 0
    · refine ⟨x * ((k : Nat) + 1), ⟨[some (.val (.int (x))), some (.val (.int (y))), some (.val (.int (x * ((k : Nat) + 1)))), some (.val (.int ((k : Nat))))], []⟩, ?_, rfl, by omega, m0, Int.mul_emod_right _ _, e⟩
      have q : l__law_common_1c_s1 ⟨[some (.val (.int (x))), some (.val (.int (y))), some (.val (.int (x * ((k : Nat) + 1)))), some (.val (.int ((k : Nat))))], []⟩ = .rt (.int (x * ((k : Nat) + 1))) ⟨[some (.val (.int (x))), some (.val (.int (y))), some (.val (.int (x * ((k : Nat) + 1)))), some (.val (.int ((k : Nat))))], []⟩ := by
        refine (if_yesZ (tst.trans (by rw [e]; rfl))).trans ?_
        exact seq_rt (ret_at rfl)
      unfold l__law_common_1c
      rw [seq_rt q]
    · have nz : 0 < n := by
        rcases Nat.eq_zero_or_pos n with z | z
        · exfalso
          apply e
          rw [show (((k : Nat) : Int) + 1) = y by omega, Int.mul_emod_left]
        · exact z
      obtain ⟨P, s', h1, h2⟩ := common_loop x0 y0 n (k + 1) (some (.val (.int (k : Nat)))) (by omega) nz
      refine ⟨P, s', ?_, h2⟩
      have q1 : l__law_common_1c_s1 ⟨[some (.val (.int (x))), some (.val (.int (y))), some (.val (.int (x * ((k : Nat) + 1)))), some (.val (.int ((k : Nat))))], []⟩ = .nx ⟨[some (.val (.int (x))), some (.val (.int (y))), some (.val (.int (x * ((k : Nat) + 1)))), some (.val (.int ((k : Nat))))], []⟩ := if_no (tst.trans (by rw [show ((x * ((k : Nat) + 1)) % y == 0) = false by simpa using e]))
      have q2 : l__law_common_1c_s2 ⟨[some (.val (.int (x))), some (.val (.int (y))), some (.val (.int (x * ((k : Nat) + 1)))), some (.val (.int ((k : Nat))))], []⟩ = .nx ⟨[some (.val (.int (x))), some (.val (.int (y))), some (.val (.int (x * (((k + 1 : Nat) : Int) + 1)))), some (.val (.int ((k : Nat))))], []⟩ := asg_at (p := .int (x * (((k + 1 : Nat) : Int) + 1))) (bin_at (p := .int (x * ((k : Nat) + 1))) (q := .int x) rfl rfl (by
        show some (PV.int _) = _
        rw [show (((k + 1 : Nat) : Int) + 1) = ((k : Nat) : Int) + 1 + 1 by omega, Int.mul_add x (((k : Nat) : Int) + 1) 1, Int.mul_one])) rfl
      have q3 : l__law_common_1c ⟨[some (.val (.int (x))), some (.val (.int (y))), some (.val (.int (x * ((k : Nat) + 1)))), some (.val (.int ((k : Nat))))], []⟩ = .nx ⟨[some (.val (.int (x))), some (.val (.int (y))), some (.val (.int (x * (((k + 1 : Nat) : Int) + 1)))), some (.val (.int ((k : Nat))))], []⟩ := by
        unfold l__law_common_1c
        rw [seq_nx q1]
        exact oneZ q2
      rw [q3]
      exact h1
theorem e_common {x y : Int} (x0 : 1 ≤ x) (y0 : 1 ≤ y) : ∃ P : Int, m__law_common [.val (.int x), .val (.int y)] [] = .ok (.int P) [] ∧ 1 ≤ P ∧ P ≤ x * y ∧ P % x = 0 ∧ P % y = 0 := by
  obtain ⟨P, s', h1, h2, h3⟩ := common_loop x0 y0 y.toNat 0 none (by omega) (by omega)
  refine ⟨P, ?_, h3⟩
  have t1 : q__law_common_1 ⟨[some (.val (.int (x))), some (.val (.int (y))), none, none], []⟩ = .nx ⟨[some (.val (.int (x))), some (.val (.int (y))), some (.val (.int (x))), none], []⟩ := rfl
  have e0 : x * (((0 : Nat) : Int) + 1) = x := by rw [show ((0 : Nat) : Int) + 1 = 1 from rfl, Int.mul_one]
  rw [e0] at h1
  have t2 : q__law_common_2 ⟨[some (.val (.int (x))), some (.val (.int (y))), some (.val (.int (x))), none], []⟩ = .rt (.int P) s' := (for_atZ (l := rng ((0 : Nat) : Int) y.toNat) rfl).trans h1
  unfold m__law_common
  rw [g__law_common_eq]
  simp only [mOf, start0, List.map_cons, List.map_nil, List.length_cons, List.length_nil, Nat.reduceAdd, Nat.reduceSub, List.replicate, List.cons_append, List.nil_append]
  rw [seq_nx t1, seq_rt t2]
  show FRes.ok _ s'.mu = _
  rw [h2]
theorem once_len0 : ∀ (ns acc : List Int), (ns.foldl PyProof.Rows.step_dedup acc).length ≤ acc.length + ns.length
  | [], acc => Nat.le_refl _
  | n :: ns, acc => by
    rw [List.foldl_cons]
    refine Nat.le_trans (once_len0 ns _) ?_
    have : (PyProof.Rows.step_dedup acc n).length ≤ acc.length + 1 := by
      show (if acc.any (· == n) then acc else acc ++ [n]).length ≤ _
      split
      · omega
      · rw [List.length_append]; exact Nat.le_refl _
    rw [List.length_cons]
    omega
theorem once_len (ns : List Int) : (onceI ns).length ≤ ns.length := by
  have := once_len0 ns []
  rw [List.length_nil] at this
  have e : onceI ns = ns.foldl PyProof.Rows.step_dedup [] := rfl
  rw [e]
  omega
theorem sortU_le (cells : List Int) : (sortU cells).length ≤ cells.length := by
  induction cells with
  | nil => exact Nat.le_refl _
  | cons x r ih =>
    have ins : ∀ l : List Int, (insU x l).length ≤ l.length + 1 := fun l => by
      induction l with
      | nil => exact Nat.le_refl _
      | cons y l ih2 =>
        unfold insU
        split
        · simp
        · split
          · simp
          · rw [List.length_cons, List.length_cons]; omega
    show (insU x (sortU r)).length ≤ _
    have := ins (sortU r)
    rw [List.length_cons]
    omega
theorem degree_turn {cells : List Int} {b x : Int} (b0 : 0 < b) (L : List Int) (hL : L.length ≤ 1000) (i : Nat) (hi : L[i]? = some x) : l__law_degree_1c ⟨[some (.val (.lst (cells.map PV.int))), some (.val (.int (b))), some (.own (.dct (tabI (onceI ((L.take i).map (· % b))) (fun k => .int ((((L.take i).map (· % b)).count k : Nat) : Int))))), some (.val (.int (x))), none], []⟩ = .nx ⟨[some (.val (.lst (cells.map PV.int))), some (.val (.int (b))), some (.own (.dct (tabI (onceI ((L.take (i + 1)).map (· % b))) (fun k => .int ((((L.take (i + 1)).map (· % b)).count k : Nat) : Int))))), some (.val (.int (x))), none], []⟩ := by
  have md : ∀ st : Stt, st.ro[3]? = some (some (.val (.int x))) → st.ro[1]? = some (some (.val (.int b))) → eBin pMod (eVar 3) (eVar 1) st = .ok (.int (x % b)) st := fun st g1 g2 => bin_at (p := .int x) (q := .int b) (by unfold eVar; rw [g1]) (by unfold eVar; rw [g2]) (modI b0)
  have tk : L.take (i + 1) = L.take i ++ [x] := by rw [List.take_succ, hi]; rfl
  have gv : (valP (tabI (onceI ((L.take i).map (· % b))) (fun k => .int ((((L.take i).map (· % b)).count k : Nat) : Int))) (.inl (x % b))).getD (.int 0) = .int ((((L.take i).map (· % b)).count (x % b) : Nat) : Int) := by
    rw [val_tab]
    by_cases q : x % b ∈ onceI ((L.take i).map (· % b))
    · rw [if_pos q]; rfl
    · rw [if_neg q]
      rw [once_mem] at q
      rw [List.count_eq_zero_of_not_mem q]
      rfl
  have ln := once_len ((L.take i).map (· % b))
  rw [List.length_map, List.length_take] at ln
  have t : l__law_degree_1c_s1 ⟨[some (.val (.lst (cells.map PV.int))), some (.val (.int (b))), some (.own (.dct (tabI (onceI ((L.take i).map (· % b))) (fun k => .int ((((L.take i).map (· % b)).count k : Nat) : Int))))), some (.val (.int (x))), none], []⟩ = .nx ⟨[some (.val (.lst (cells.map PV.int))), some (.val (.int (b))), some (.own (.dct (tabI (onceI ((L.take (i + 1)).map (· % b))) (fun k => .int ((((L.take (i + 1)).map (· % b)).count k : Nat) : Int))))), some (.val (.int (x))), none], []⟩ := by
    refine putD_at (k := .inl 2) (p := .int (((((L.take i).map (· % b)).count (x % b) : Nat) : Int) + 1)) (j := x % b) (bin_at (p := .int ((((L.take i).map (· % b)).count (x % b) : Nat) : Int)) (q := .int 1) ((getD_at (k := .inl 2) rfl (md _ rfl rfl) (z := .int 0) rfl).trans (by rw [gv])) rfl rfl) rfl (md _ rfl rfl) (by unfold tabI; rw [List.length_map]; omega) ?_
    rw [put_once]
    have e1 : (L.take i).map (· % b) ++ [x % b] = (L.take (i + 1)).map (· % b) := by rw [tk, List.map_append]; rfl
    have e2 : tabI (onceI ((L.take (i + 1)).map (· % b))) (fun y => if y = x % b then .int (((((L.take i).map (· % b)).count (x % b) : Nat) : Int) + 1) else .int ((((L.take i).map (· % b)).count y : Nat) : Int)) = tabI (onceI ((L.take (i + 1)).map (· % b))) (fun k => .int ((((L.take (i + 1)).map (· % b)).count k : Nat) : Int)) := tab_congr fun k _ => by
      rw [← e1, List.count_append]
      by_cases q : k = x % b
      · rw [if_pos q, q, List.count_singleton_self]
        congr 1
      · have z0 : List.count k [x % b] = 0 := List.count_eq_zero_of_not_mem (by simpa using q)
        rw [if_neg q, z0]
        rfl
    rw [e1, e2]
    rfl
  unfold l__law_degree_1c
  exact oneZ t
theorem e_degree {cells : List Int} {b : Int} (b0 : 0 < b) (hl : cells.length ≤ 1000) : m__law_degree [.val (.lst (cells.map PV.int)), .val (.int b)] [] = .ok (.int (degL cells b)) [] := by
  have sl := sortU_le cells
  have t1 : q__law_degree_1 ⟨[some (.val (.lst (cells.map PV.int))), some (.val (.int (b))), none, none, none], []⟩ = .nx ⟨[some (.val (.lst (cells.map PV.int))), some (.val (.int (b))), some (.own (.dct [])), none, none], []⟩ := dctN_at (by show (2 : Nat) < 5; decide) rfl
  have so : iAny (frz (oSortSet (eVar 0))) ⟨[some (.val (.lst (cells.map PV.int))), some (.val (.int (b))), some (.own (.dct [])), none, none], []⟩ = .ok ((sortU cells).map PV.int) ⟨[some (.val (.lst (cells.map PV.int))), some (.val (.int (b))), some (.own (.dct [])), none, none], []⟩ := by
    refine anyI ?_
    have e1 : oSortSet (eVar 0) ⟨[some (.val (.lst (cells.map PV.int))), some (.val (.int (b))), some (.own (.dct [])), none, none], []⟩ = .ok (.lst ((sortU cells).map PV.int)) ⟨[some (.val (.lst (cells.map PV.int))), some (.val (.int (b))), some (.own (.dct [])), none, none], []⟩ := by
      unfold oSortSet
      show (match allInt (cells.map PV.int) with | some ns => if ns.length ≤ 2000 then Res.ok (MO.lst ((sortU ns).map PV.int)) _ else .stuck | none => .stuck : Res MO) = _
      rw [allInt_map]
      simp only
      rw [if_pos (by omega)]
    unfold frz
    rw [e1]
    rfl
  obtain ⟨st, e2, w, rfl⟩ := forL_inv (a := l__law_degree_1b) (b := l__law_degree_1c) (fun i st => ∃ w : Option PV, st = ⟨[some (.val (.lst (cells.map PV.int))), some (.val (.int (b))), some (.own (.dct (tabI (onceI (((sortU cells).take i).map (· % b))) (fun k => .int (((((sortU cells).take i).map (· % b)).count k : Nat) : Int))))), (w.map SV.val), none], []⟩) ((sortU cells).map PV.int) 0 ⟨[some (.val (.lst (cells.map PV.int))), some (.val (.int (b))), some (.own (.dct [])), none, none], []⟩ ⟨none, by rw [List.take_zero]; rfl⟩ (by
    rintro i p st hpi ⟨w, rfl⟩
    rw [List.getElem?_map] at hpi
    cases hx : (sortU cells)[i]? with
    | none => rw [hx] at hpi; cases hpi
    | some x =>
      rw [hx] at hpi
      cases hpi
      rw [Nat.zero_add]
      exact ⟨⟨[some (.val (.lst (cells.map PV.int))), some (.val (.int (b))), some (.own (.dct (tabI (onceI (((sortU cells).take i).map (· % b))) (fun k => .int (((((sortU cells).take i).map (· % b)).count k : Nat) : Int))))), some (.val (.int (x))), none], []⟩, rfl, _, .inl (degree_turn b0 (sortU cells) (by omega) i hx), some (.int x), rfl⟩)
  rw [List.length_map, Nat.zero_add, List.take_length] at e2
  have t2 : q__law_degree_2 ⟨[some (.val (.lst (cells.map PV.int))), some (.val (.int (b))), some (.own (.dct [])), none, none], []⟩ = .nx ⟨[some (.val (.lst (cells.map PV.int))), some (.val (.int (b))), some (.own (.dct (tabI (onceI ((sortU cells).map (· % b))) (fun k => .int ((((sortU cells).map (· % b)).count k : Nat) : Int))))), (w.map SV.val), none], []⟩ := (for_atZ so).trans e2
  have ol := once_len ((sortU cells).map (· % b))
  rw [List.length_map] at ol
  have cd : eCompD 2 (oComp [4] (iDcv (eVar 2)) l__law_degree_2c tYesD l__law_degree_2e) ⟨[some (.val (.lst (cells.map PV.int))), some (.val (.int (b))), some (.own (.dct (tabI (onceI ((sortU cells).map (· % b))) (fun k => .int ((((sortU cells).map (· % b)).count k : Nat) : Int))))), (w.map SV.val), none], []⟩ = .ok (.lst ((onceI ((sortU cells).map (· % b))).map fun k => .int ((((sortU cells).map (· % b)).count k : Nat) : Int))) ⟨[some (.val (.lst (cells.map PV.int))), some (.val (.int (b))), some (.own (.dct (tabI (onceI ((sortU cells).map (· % b))) (fun k => .int ((((sortU cells).map (· % b)).count k : Nat) : Int))))), (w.map SV.val), none], []⟩ :=
    compD_at (ks := onceI ((sortU cells).map (· % b))) (f := fun k => .int ((((sortU cells).map (· % b)).count k : Nat) : Int)) (G := fun k => ((((sortU cells).map (· % b)).count k : Nat) : Int)) (s1 := ⟨[some (.val (.lst (cells.map PV.int))), some (.val (.int (b))), some (.val (.dcv ((tabI (onceI ((sortU cells).map (· % b))) (fun k => .int ((((sortU cells).map (· % b)).count k : Nat) : Int))).map (·.1)) ((tabI (onceI ((sortU cells).map (· % b))) (fun k => .int ((((sortU cells).map (· % b)).count k : Nat) : Int))).map (·.2)))), (w.map SV.val), none], []⟩) rfl rfl (by cases w <;> rfl) rfl (by omega) (by show (2 : Nat) < 5; decide) fun x hx => ⟨⟨[some (.val (.lst (cells.map PV.int))), some (.val (.int (b))), some (.val (.dcv ((tabI (onceI ((sortU cells).map (· % b))) (fun k => .int ((((sortU cells).map (· % b)).count k : Nat) : Int))).map (·.1)) ((tabI (onceI ((sortU cells).map (· % b))) (fun k => .int ((((sortU cells).map (· % b)).count k : Nat) : Int))).map (·.2)))), (w.map SV.val), some (.val (.int (x)))], []⟩, rfl, ⟨[some (.val (.lst (cells.map PV.int))), some (.val (.int (b))), some (.val (.dcv ((tabI (onceI ((sortU cells).map (· % b))) (fun k => .int ((((sortU cells).map (· % b)).count k : Nat) : Int))).map (·.1)) ((tabI (onceI ((sortU cells).map (· % b))) (fun k => .int ((((sortU cells).map (· % b)).count k : Nat) : Int))).map (·.2)))), (w.map SV.val), some (.val (.int (x)))], []⟩, ixD_at (f := fun k => .int ((((sortU cells).map (· % b)).count k : Nat) : Int)) rfl rfl hx, rfl⟩
  have mx : maxI (0 :: (onceI ((sortU cells).map (· % b))).map fun k => ((((sortU cells).map (· % b)).count k : Nat) : Int)) = degL cells b := by
    unfold degL
    refine maxI_congr (by simp) fun y => ?_
    rw [List.mem_cons, List.mem_cons, List.mem_map, List.mem_map]
    simp only [once_mem]
  have t3 : q__law_degree_3 ⟨[some (.val (.lst (cells.map PV.int))), some (.val (.int (b))), some (.own (.dct (tabI (onceI ((sortU cells).map (· % b))) (fun k => .int ((((sortU cells).map (· % b)).count k : Nat) : Int))))), (w.map SV.val), none], []⟩ = .rt (.int (degL cells b)) ⟨[some (.val (.lst (cells.map PV.int))), some (.val (.int (b))), some (.own (.dct (tabI (onceI ((sortU cells).map (· % b))) (fun k => .int ((((sortU cells).map (· % b)).count k : Nat) : Int))))), (w.map SV.val), none], []⟩ := ret_at (callB1_at (bin_at (p := .lst [.int 0]) (q := .lst ((onceI ((sortU cells).map (· % b))).map fun k => .int ((((sortU cells).map (· % b)).count k : Nat) : Int))) (lst_at (acons_at (s1 := ⟨[some (.val (.lst (cells.map PV.int))), some (.val (.int (b))), some (.own (.dct (tabI (onceI ((sortU cells).map (· % b))) (fun k => .int ((((sortU cells).map (· % b)).count k : Nat) : Int))))), (w.map SV.val), none], []⟩) rfl rfl) (by show (1 : Nat) ≤ 16777216; decide)) cd (add_lst (by rw [List.length_map]; show 1 + _ ≤ _; omega))) (by
    have := pMax_map (fun k => ((((sortU cells).map (· % b)).count k : Nat) : Int)) 0 (onceI ((sortU cells).map (· % b)))
    rw [mx] at this
    exact this))
  unfold m__law_degree
  rw [g__law_degree_eq]
  simp only [mOf, start0, List.map_cons, List.map_nil, List.length_cons, List.length_nil, Nat.reduceAdd, Nat.reduceSub, List.replicate, List.cons_append, List.nil_append]
  rw [seq_nx t1, seq_nx t2, seq_rt t3]
  rfl
abbrev dcvT (l : List (Key × PV)) : PV := .dcv (l.map fun q => q.1) (l.map fun q => q.2)
def rowV (a b W : Int) (L : List Int) (w : Int) : List Int := (L.filter fun x => decide (x / W = w)).map fun x => a * x + b
theorem row_none {a b W : Int} {L : List Int} {w : Int} (h : w ∉ onceI (L.map (· / W))) : rowV a b W L w = [] := by
  unfold rowV
  have : L.filter (fun x => decide (x / W = w)) = [] := by
    refine List.filter_eq_nil_iff.mpr fun x hx hq => h ?_
    rw [once_mem]
    exact List.mem_map.mpr ⟨x, hx, of_decide_eq_true hq⟩
  rw [this]
  rfl
theorem row_snoc (a b W : Int) (L : List Int) (x w : Int) : rowV a b W (L ++ [x]) w = if w = x / W then rowV a b W L w ++ [a * x + b] else rowV a b W L w := by
  unfold rowV
  rw [List.filter_append]
  by_cases q : w = x / W
  · have e : [x].filter (fun x => decide (x / W = w)) = [x] := by simp [q]
    rw [if_pos q, e, List.map_append]
    rfl
  · have e : [x].filter (fun x => decide (x / W = w)) = [] := by simp [Ne.symm q]
    rw [if_neg q, e, List.append_nil]
theorem rowV_len (a b W : Int) (L : List Int) (w : Int) : (rowV a b W L w).length ≤ L.length := by
  unfold rowV
  rw [List.length_map]
  exact List.length_filter_le _ _
theorem stretch_turn {l h s r a b W z B x : Int} (W0 : 0 < W) (Wd : okDiv W = true) (ab : a.natAbs < 2 ^ 300) (xb : x.natAbs < 2 ^ 300) (L : List Int) (hL : L.length ≤ 2000000) (i : Nat) (hi : L[i]? = some x) : l__law_stretch_1c ⟨[some (.val (gt l h s r)), some (.val (.int (a))), some (.val (.int (b))), some (.val (.int (W))), some (.val (.int (z))), some (.val (.int (B))), some (.own (.dct (tabI (onceI ((L.take i).map (· / W))) (fun w => .lst ((rowV a b W (L.take i) w).map PV.int))))), some (.val (.int (x))), none, none, none, none], []⟩ = .nx ⟨[some (.val (gt l h s r)), some (.val (.int (a))), some (.val (.int (b))), some (.val (.int (W))), some (.val (.int (z))), some (.val (.int (B))), some (.own (.dct (tabI (onceI ((L.take (i + 1)).map (· / W))) (fun w => .lst ((rowV a b W (L.take (i + 1)) w).map PV.int))))), some (.val (.int (x))), none, none, none, none], []⟩ := by
  have md : ∀ st : Stt, st.ro[7]? = some (some (.val (.int x))) → st.ro[3]? = some (some (.val (.int W))) → eBin pFdiv (eVar 7) (eVar 3) st = .ok (.int (x / W)) st := fun st g1 g2 => bin_at (p := .int x) (q := .int W) (by unfold eVar; rw [g1]) (by unfold eVar; rw [g2]) (divI W0 Wd)
  have tk : L.take (i + 1) = L.take i ++ [x] := by rw [List.take_succ, hi]; rfl
  have gv : (valP (tabI (onceI ((L.take i).map (· / W))) (fun w => .lst ((rowV a b W (L.take i) w).map PV.int))) (.inl (x / W))).getD (.lst []) = .lst ((rowV a b W (L.take i) (x / W)).map PV.int) := by
    rw [val_tab]
    by_cases q : x / W ∈ onceI ((L.take i).map (· / W))
    · rw [if_pos q]; rfl
    · rw [if_neg q, row_none q]
      rfl
  have ln := once_len ((L.take i).map (· / W))
  rw [List.length_map, List.length_take] at ln
  have rl := rowV_len a b W (L.take i) (x / W)
  rw [List.length_take] at rl
  have cv : frz (oLst (aCons (eBin pAdd (eBin pMul (eVar 1) (eVar 7)) (eVar 2)) aNil)) ⟨[some (.val (gt l h s r)), some (.val (.int (a))), some (.val (.int (b))), some (.val (.int (W))), some (.val (.int (z))), some (.val (.int (B))), some (.own (.dct (tabI (onceI ((L.take i).map (· / W))) (fun w => .lst ((rowV a b W (L.take i) w).map PV.int))))), some (.val (.int (x))), none, none, none, none], []⟩ = .ok (.lst [.int (a * x + b)]) ⟨[some (.val (gt l h s r)), some (.val (.int (a))), some (.val (.int (b))), some (.val (.int (W))), some (.val (.int (z))), some (.val (.int (B))), some (.own (.dct (tabI (onceI ((L.take i).map (· / W))) (fun w => .lst ((rowV a b W (L.take i) w).map PV.int))))), some (.val (.int (x))), none, none, none, none], []⟩ := lst_at (acons_at (bin_at (p := .int (a * x)) (q := .int b) (bin_at (p := .int a) (q := .int x) rfl rfl (if_pos (okMul_of (a := 300) (b := 300) ab xb (by decide) (by decide) (by decide)))) rfl rfl) rfl) (by show (1 : Nat) ≤ 16777216; decide)
  have t : l__law_stretch_1c_s1 ⟨[some (.val (gt l h s r)), some (.val (.int (a))), some (.val (.int (b))), some (.val (.int (W))), some (.val (.int (z))), some (.val (.int (B))), some (.own (.dct (tabI (onceI ((L.take i).map (· / W))) (fun w => .lst ((rowV a b W (L.take i) w).map PV.int))))), some (.val (.int (x))), none, none, none, none], []⟩ = .nx ⟨[some (.val (gt l h s r)), some (.val (.int (a))), some (.val (.int (b))), some (.val (.int (W))), some (.val (.int (z))), some (.val (.int (B))), some (.own (.dct (tabI (onceI ((L.take (i + 1)).map (· / W))) (fun w => .lst ((rowV a b W (L.take (i + 1)) w).map PV.int))))), some (.val (.int (x))), none, none, none, none], []⟩ := by
    refine putD_at (k := .inl 6) (p := .lst ((rowV a b W (L.take i) (x / W)).map PV.int ++ [.int (a * x + b)])) (j := x / W) (bin_at (p := .lst ((rowV a b W (L.take i) (x / W)).map PV.int)) (q := .lst [.int (a * x + b)]) ((getD_at (k := .inl 6) rfl (md _ rfl rfl) (z := .lst []) (lst_at (l := []) rfl (by show (0 : Nat) ≤ 16777216; decide))).trans (by rw [gv])) cv (add_lst (by rw [List.length_map]; show _ + 1 ≤ _; omega))) rfl (md _ rfl rfl) (by unfold tabI; rw [List.length_map]; omega) ?_
    rw [put_once]
    have e1 : (L.take i).map (· / W) ++ [x / W] = (L.take (i + 1)).map (· / W) := by rw [tk, List.map_append]; rfl
    have e2 : tabI (onceI ((L.take (i + 1)).map (· / W))) (fun y => if y = x / W then .lst ((rowV a b W (L.take i) (x / W)).map PV.int ++ [.int (a * x + b)]) else .lst ((rowV a b W (L.take i) y).map PV.int)) = tabI (onceI ((L.take (i + 1)).map (· / W))) (fun w => .lst ((rowV a b W (L.take (i + 1)) w).map PV.int)) := tab_congr fun k _ => by
      rw [tk, row_snoc]
      by_cases q : k = x / W
      · rw [if_pos q, if_pos q, q, List.map_append]
        rfl
      · rw [if_neg q, if_neg q]
    rw [e1, e2]
    rfl
  unfold l__law_stretch_1c
  exact oneZ t
/-- what is told of a stretch -/
def st4 (l h s r a b W z B : Int) : List Int := [((wvs l h s r W).length : Nat), linesOf l h s r W a b z, ((wvs l h s r W).map fun x => degL (rowC l h s r W a b x) B).sum, maxI (0 :: (wvs l h s r W).map fun x => degL (rowC l h s r W a b x) B)]
theorem e_stretch {l h s r a b W z B : Int} (g : Gs l h s r) (hW : 1 ≤ W ∧ W ≤ 32) (z0 : 0 < z) (zd : okDiv z = true) (B0 : 0 < B) (hz : h - l ≤ 1000000) (ab : a.natAbs < 2 ^ 300) : m__law_stretch [.val (gt l h s r), .val (.int a), .val (.int b), .val (.int W), .val (.int z), .val (.int B)] [] = .ok (.lst ((st4 l h s r a b W z B).map PV.int)) [] := by
  have s0 := g.s0
  have l0 := g.l0
  have lh := g.lh
  have hb := g.hb
  have Wd : okDiv W = true := okD (by omega) (by omega)
  have p200 : (2 : Int) ^ 200 < ((2 ^ 300 : Nat) : Int) := by decide +kernel
  have ll : (listed l h s r).length ≤ 1000000 := by
    unfold listed
    refine Nat.le_trans (List.length_filter_le _ _) ?_
    unfold seqI
    rw [List.length_map, List.length_range]
    omega
  have t1 : q__law_stretch_1 ⟨[some (.val (gt l h s r)), some (.val (.int (a))), some (.val (.int (b))), some (.val (.int (W))), some (.val (.int (z))), some (.val (.int (B))), none, none, none, none, none, none], []⟩ = .nx ⟨[some (.val (gt l h s r)), some (.val (.int (a))), some (.val (.int (b))), some (.val (.int (W))), some (.val (.int (z))), some (.val (.int (B))), some (.own (.dct [])), none, none, none, none, none], []⟩ := dctN_at (by show (6 : Nat) < 12; decide) rfl
  have it : iAny (eCall m__law_own (avN 1 (lPv (eVar 0) lNil))) ⟨[some (.val (gt l h s r)), some (.val (.int (a))), some (.val (.int (b))), some (.val (.int (W))), some (.val (.int (z))), some (.val (.int (B))), some (.own (.dct [])), none, none, none, none, none], []⟩ = .ok ((listed l h s r).map PV.int) ⟨[some (.val (gt l h s r)), some (.val (.int (a))), some (.val (.int (b))), some (.val (.int (W))), some (.val (.int (z))), some (.val (.int (B))), some (.own (.dct [])), none, none, none, none, none], []⟩ := anyI (call1_ok rfl (e_own s0 hz))
  obtain ⟨st, e2, w, rfl⟩ := forL_inv (a := l__law_stretch_1b) (b := l__law_stretch_1c) (fun i st => ∃ w : Option PV, st = ⟨[some (.val (gt l h s r)), some (.val (.int (a))), some (.val (.int (b))), some (.val (.int (W))), some (.val (.int (z))), some (.val (.int (B))), some (.own (.dct (tabI (onceI (((listed l h s r).take i).map (· / W))) (fun w => .lst ((rowV a b W ((listed l h s r).take i) w).map PV.int))))), (w.map SV.val), none, none, none, none], []⟩) ((listed l h s r).map PV.int) 0 ⟨[some (.val (gt l h s r)), some (.val (.int (a))), some (.val (.int (b))), some (.val (.int (W))), some (.val (.int (z))), some (.val (.int (B))), some (.own (.dct [])), none, none, none, none, none], []⟩ ⟨none, by rw [List.take_zero]; rfl⟩ (by
    rintro i p st hpi ⟨w, rfl⟩
    rw [List.getElem?_map] at hpi
    cases hx : (listed l h s r)[i]? with
    | none => rw [hx] at hpi; cases hpi
    | some x =>
      rw [hx] at hpi
      cases hpi
      rw [Nat.zero_add]
      have xm := mem_listed.mp (List.mem_of_getElem? hx)
      exact ⟨⟨[some (.val (gt l h s r)), some (.val (.int (a))), some (.val (.int (b))), some (.val (.int (W))), some (.val (.int (z))), some (.val (.int (B))), some (.own (.dct (tabI (onceI (((listed l h s r).take i).map (· / W))) (fun w => .lst ((rowV a b W ((listed l h s r).take i) w).map PV.int))))), some (.val (.int (x))), none, none, none, none], []⟩, rfl, _, .inl (stretch_turn (by omega) Wd ab (by omega) (listed l h s r) (by omega) i hx), some (.int x), rfl⟩)
  rw [List.length_map, Nat.zero_add, List.take_length] at e2
  have t2 : q__law_stretch_2 ⟨[some (.val (gt l h s r)), some (.val (.int (a))), some (.val (.int (b))), some (.val (.int (W))), some (.val (.int (z))), some (.val (.int (B))), some (.own (.dct [])), none, none, none, none, none], []⟩ = .nx ⟨[some (.val (gt l h s r)), some (.val (.int (a))), some (.val (.int (b))), some (.val (.int (W))), some (.val (.int (z))), some (.val (.int (B))), some (.own (.dct (tabI (onceI ((listed l h s r).map (· / W))) (fun w => .lst ((rowV a b W (listed l h s r) w).map PV.int))))), (w.map SV.val), none, none, none, none], []⟩ := (for_atZ it).trans e2
  have ol := once_len ((listed l h s r).map (· / W))
  rw [List.length_map] at ol
  have wl : (wvs l h s r W).length ≤ 1000000 := Nat.le_trans ol ll
  have rx : ∀ x, (rowC l h s r W a b x).length ≤ 32 := fun x => row_len hW
  have cd3 : eCompD 6 (oComp [10] (iDcv (eVar 6)) l__law_stretch_2c tYesD l__law_stretch_2e) ⟨[some (.val (gt l h s r)), some (.val (.int (a))), some (.val (.int (b))), some (.val (.int (W))), some (.val (.int (z))), some (.val (.int (B))), some (.own (.dct (tabI (onceI ((listed l h s r).map (· / W))) (fun w => .lst ((rowV a b W (listed l h s r) w).map PV.int))))), (w.map SV.val), none, none, none, none], []⟩ = .ok (.lst ((wvs l h s r W).map fun x => .int (((onceI ((rowC l h s r W a b x).map fun c => c / z)).length : Nat) : Int))) ⟨[some (.val (gt l h s r)), some (.val (.int (a))), some (.val (.int (b))), some (.val (.int (W))), some (.val (.int (z))), some (.val (.int (B))), some (.own (.dct (tabI (onceI ((listed l h s r).map (· / W))) (fun w => .lst ((rowV a b W (listed l h s r) w).map PV.int))))), (w.map SV.val), none, none, none, none], []⟩ :=
    compD_at (ks := onceI ((listed l h s r).map (· / W))) (f := fun w => .lst ((rowV a b W (listed l h s r) w).map PV.int)) (G := fun x => (((onceI ((rowC l h s r W a b x).map fun c => c / z)).length : Nat) : Int)) (s1 := ⟨[some (.val (gt l h s r)), some (.val (.int (a))), some (.val (.int (b))), some (.val (.int (W))), some (.val (.int (z))), some (.val (.int (B))), some (.val (dcvT (tabI (onceI ((listed l h s r).map (· / W))) (fun w => .lst ((rowV a b W (listed l h s r) w).map PV.int))))), (w.map SV.val), none, none, none, none], []⟩) rfl rfl (by cases w <;> rfl) rfl (by omega) (by show (6 : Nat) < 12; decide) fun x hx => by
      have e1 : iAny (eIxD (eVar 6) (eVar 10)) ⟨[some (.val (gt l h s r)), some (.val (.int (a))), some (.val (.int (b))), some (.val (.int (W))), some (.val (.int (z))), some (.val (.int (B))), some (.val (dcvT (tabI (onceI ((listed l h s r).map (· / W))) (fun w => .lst ((rowV a b W (listed l h s r) w).map PV.int))))), (w.map SV.val), none, none, some (.val (.int (x))), none], []⟩ = .ok ((rowC l h s r W a b x).map PV.int) ⟨[some (.val (gt l h s r)), some (.val (.int (a))), some (.val (.int (b))), some (.val (.int (W))), some (.val (.int (z))), some (.val (.int (B))), some (.val (dcvT (tabI (onceI ((listed l h s r).map (· / W))) (fun w => .lst ((rowV a b W (listed l h s r) w).map PV.int))))), (w.map SV.val), none, none, some (.val (.int (x))), none], []⟩ := anyI (ixD_at (f := fun w => .lst ((rowV a b W (listed l h s r) w).map PV.int)) rfl rfl hx)
      have cl := compL_M (vs := [11]) (a := l__law_stretch_3c) (fe := l__law_stretch_3e) (s := ⟨[some (.val (gt l h s r)), some (.val (.int (a))), some (.val (.int (b))), some (.val (.int (W))), some (.val (.int (z))), some (.val (.int (B))), some (.val (dcvT (tabI (onceI ((listed l h s r).map (· / W))) (fun w => .lst ((rowV a b W (listed l h s r) w).map PV.int))))), (w.map SV.val), none, none, some (.val (.int (x))), none], []⟩) PV.int (fun c => PV.int (c / z)) (rowC l h s r W a b x) (by have := rx x; omega) (fun c _ => ⟨⟨[some (.val (gt l h s r)), some (.val (.int (a))), some (.val (.int (b))), some (.val (.int (W))), some (.val (.int (z))), some (.val (.int (B))), some (.val (dcvT (tabI (onceI ((listed l h s r).map (· / W))) (fun w => .lst ((rowV a b W (listed l h s r) w).map PV.int))))), (w.map SV.val), none, none, some (.val (.int (x))), some (.val (.int (c)))], []⟩, rfl, ⟨[some (.val (gt l h s r)), some (.val (.int (a))), some (.val (.int (b))), some (.val (.int (W))), some (.val (.int (z))), some (.val (.int (B))), some (.val (dcvT (tabI (onceI ((listed l h s r).map (· / W))) (fun w => .lst ((rowV a b W (listed l h s r) w).map PV.int))))), (w.map SV.val), none, none, some (.val (.int (x))), some (.val (.int (c)))], []⟩, bin_at (fa := eVar 11) (fb := eVar 4) (p := .int c) (q := .int z) rfl rfl (divI z0 zd), rfl⟩)
      have e2 : l__law_stretch_2e ⟨[some (.val (gt l h s r)), some (.val (.int (a))), some (.val (.int (b))), some (.val (.int (W))), some (.val (.int (z))), some (.val (.int (B))), some (.val (dcvT (tabI (onceI ((listed l h s r).map (· / W))) (fun w => .lst ((rowV a b W (listed l h s r) w).map PV.int))))), (w.map SV.val), none, none, some (.val (.int (x))), none], []⟩ = .ok (.int (((onceI ((rowC l h s r W a b x).map fun c => c / z)).length : Nat) : Int)) ⟨[some (.val (gt l h s r)), some (.val (.int (a))), some (.val (.int (b))), some (.val (.int (W))), some (.val (.int (z))), some (.val (.int (B))), some (.val (dcvT (tabI (onceI ((listed l h s r).map (· / W))) (fun w => .lst ((rowV a b W (listed l h s r) w).map PV.int))))), (w.map SV.val), none, none, some (.val (.int (x))), none], []⟩ := by
        unfold l__law_stretch_2e eLenSet
        rw [comp_at (ft := l__law_stretch_3d) (s1 := ⟨[some (.val (gt l h s r)), some (.val (.int (a))), some (.val (.int (b))), some (.val (.int (W))), some (.val (.int (z))), some (.val (.int (B))), some (.val (dcvT (tabI (onceI ((listed l h s r).map (· / W))) (fun w => .lst ((rowV a b W (listed l h s r) w).map PV.int))))), (w.map SV.val), none, none, some (.val (.int (x))), none], []⟩) e1 cl rfl, Res.bind_ok]
        have ai := allInt_map ((rowC l h s r W a b x).map fun c => c / z)
        rw [List.map_map] at ai
        have ai : allInt ((rowC l h s r W a b x).map fun c => PV.int (c / z)) = some ((rowC l h s r W a b x).map fun c => c / z) := ai
        unfold pLenSet
        simp only [ai]
        rw [if_pos (by rw [List.length_map]; have := rx x; omega)]
        rfl
      exact ⟨⟨[some (.val (gt l h s r)), some (.val (.int (a))), some (.val (.int (b))), some (.val (.int (W))), some (.val (.int (z))), some (.val (.int (B))), some (.val (dcvT (tabI (onceI ((listed l h s r).map (· / W))) (fun w => .lst ((rowV a b W (listed l h s r) w).map PV.int))))), (w.map SV.val), none, none, some (.val (.int (x))), none], []⟩, rfl, ⟨[some (.val (gt l h s r)), some (.val (.int (a))), some (.val (.int (b))), some (.val (.int (W))), some (.val (.int (z))), some (.val (.int (B))), some (.val (dcvT (tabI (onceI ((listed l h s r).map (· / W))) (fun w => .lst ((rowV a b W (listed l h s r) w).map PV.int))))), (w.map SV.val), none, none, some (.val (.int (x))), none], []⟩, e2, rfl⟩
  have sm := pSum_map (fun x => (((onceI ((rowC l h s r W a b x).map fun c => c / z)).length : Nat) : Int)) (wvs l h s r W)
  rw [wvs_lines s0 (by omega) g.r0 g.r1 z0 l0 lh] at sm
  have t3 : q__law_stretch_3 ⟨[some (.val (gt l h s r)), some (.val (.int (a))), some (.val (.int (b))), some (.val (.int (W))), some (.val (.int (z))), some (.val (.int (B))), some (.own (.dct (tabI (onceI ((listed l h s r).map (· / W))) (fun w => .lst ((rowV a b W (listed l h s r) w).map PV.int))))), (w.map SV.val), none, none, none, none], []⟩ = .nx ⟨[some (.val (gt l h s r)), some (.val (.int (a))), some (.val (.int (b))), some (.val (.int (W))), some (.val (.int (z))), some (.val (.int (B))), some (.own (.dct (tabI (onceI ((listed l h s r).map (· / W))) (fun w => .lst ((rowV a b W (listed l h s r) w).map PV.int))))), (w.map SV.val), some (.val (.int (linesOf l h s r W a b z))), none, none, none], []⟩ := asg_at (s1 := ⟨[some (.val (gt l h s r)), some (.val (.int (a))), some (.val (.int (b))), some (.val (.int (W))), some (.val (.int (z))), some (.val (.int (B))), some (.own (.dct (tabI (onceI ((listed l h s r).map (· / W))) (fun w => .lst ((rowV a b W (listed l h s r) w).map PV.int))))), (w.map SV.val), none, none, none, none], []⟩) (callB1_at cd3 sm) rfl
  have cd4 : eCompD 6 (oComp [10] (iDcv (eVar 6)) l__law_stretch_4c tYesD l__law_stretch_4e) ⟨[some (.val (gt l h s r)), some (.val (.int (a))), some (.val (.int (b))), some (.val (.int (W))), some (.val (.int (z))), some (.val (.int (B))), some (.own (.dct (tabI (onceI ((listed l h s r).map (· / W))) (fun w => .lst ((rowV a b W (listed l h s r) w).map PV.int))))), (w.map SV.val), some (.val (.int (linesOf l h s r W a b z))), none, none, none], []⟩ = .ok (.lst ((wvs l h s r W).map fun x => .int (degL (rowC l h s r W a b x) B))) ⟨[some (.val (gt l h s r)), some (.val (.int (a))), some (.val (.int (b))), some (.val (.int (W))), some (.val (.int (z))), some (.val (.int (B))), some (.own (.dct (tabI (onceI ((listed l h s r).map (· / W))) (fun w => .lst ((rowV a b W (listed l h s r) w).map PV.int))))), (w.map SV.val), some (.val (.int (linesOf l h s r W a b z))), none, none, none], []⟩ :=
    compD_at (ks := onceI ((listed l h s r).map (· / W))) (f := fun w => .lst ((rowV a b W (listed l h s r) w).map PV.int)) (G := fun x => degL (rowC l h s r W a b x) B) (s1 := ⟨[some (.val (gt l h s r)), some (.val (.int (a))), some (.val (.int (b))), some (.val (.int (W))), some (.val (.int (z))), some (.val (.int (B))), some (.val (dcvT (tabI (onceI ((listed l h s r).map (· / W))) (fun w => .lst ((rowV a b W (listed l h s r) w).map PV.int))))), (w.map SV.val), some (.val (.int (linesOf l h s r W a b z))), none, none, none], []⟩) rfl rfl (by cases w <;> rfl) rfl (by omega) (by show (6 : Nat) < 12; decide) fun x hx =>
      ⟨⟨[some (.val (gt l h s r)), some (.val (.int (a))), some (.val (.int (b))), some (.val (.int (W))), some (.val (.int (z))), some (.val (.int (B))), some (.val (dcvT (tabI (onceI ((listed l h s r).map (· / W))) (fun w => .lst ((rowV a b W (listed l h s r) w).map PV.int))))), (w.map SV.val), some (.val (.int (linesOf l h s r W a b z))), none, some (.val (.int (x))), none], []⟩, rfl, ⟨[some (.val (gt l h s r)), some (.val (.int (a))), some (.val (.int (b))), some (.val (.int (W))), some (.val (.int (z))), some (.val (.int (B))), some (.val (dcvT (tabI (onceI ((listed l h s r).map (· / W))) (fun w => .lst ((rowV a b W (listed l h s r) w).map PV.int))))), (w.map SV.val), some (.val (.int (linesOf l h s r W a b z))), none, some (.val (.int (x))), none], []⟩, call2_ok (p0 := .lst ((rowC l h s r W a b x).map PV.int)) (p1 := .int B) (ixD_at (f := fun w => .lst ((rowV a b W (listed l h s r) w).map PV.int)) rfl rfl hx) rfl (e_degree B0 (by have := rx x; omega)), rfl⟩
  have t4 : q__law_stretch_4 ⟨[some (.val (gt l h s r)), some (.val (.int (a))), some (.val (.int (b))), some (.val (.int (W))), some (.val (.int (z))), some (.val (.int (B))), some (.own (.dct (tabI (onceI ((listed l h s r).map (· / W))) (fun w => .lst ((rowV a b W (listed l h s r) w).map PV.int))))), (w.map SV.val), some (.val (.int (linesOf l h s r W a b z))), none, none, none], []⟩ = .nx ⟨[some (.val (gt l h s r)), some (.val (.int (a))), some (.val (.int (b))), some (.val (.int (W))), some (.val (.int (z))), some (.val (.int (B))), some (.own (.dct (tabI (onceI ((listed l h s r).map (· / W))) (fun w => .lst ((rowV a b W (listed l h s r) w).map PV.int))))), (w.map SV.val), some (.val (.int (linesOf l h s r W a b z))), some (.val (.lst ((wvs l h s r W).map fun x => PV.int (degL (rowC l h s r W a b x) B)))), none, none], []⟩ := asg_at (s1 := ⟨[some (.val (gt l h s r)), some (.val (.int (a))), some (.val (.int (b))), some (.val (.int (W))), some (.val (.int (z))), some (.val (.int (B))), some (.own (.dct (tabI (onceI ((listed l h s r).map (· / W))) (fun w => .lst ((rowV a b W (listed l h s r) w).map PV.int))))), (w.map SV.val), some (.val (.int (linesOf l h s r W a b z))), none, none, none], []⟩) cd4 rfl
  have sd := pSum_map (fun x => degL (rowC l h s r W a b x) B) (wvs l h s r W)
  have md := pMax_map (fun x => degL (rowC l h s r W a b x) B) 0 (wvs l h s r W)
  have lnq : pLen [.lst ((wvs l h s r W).map fun x => PV.int (degL (rowC l h s r W a b x) B))] = some (.int ((wvs l h s r W).length : Nat)) := by
    show some (PV.int ((((wvs l h s r W).map fun x => PV.int (degL (rowC l h s r W a b x) B)).length : Nat) : Int)) = _
    rw [List.length_map]
  have t5 : q__law_stretch_5 ⟨[some (.val (gt l h s r)), some (.val (.int (a))), some (.val (.int (b))), some (.val (.int (W))), some (.val (.int (z))), some (.val (.int (B))), some (.own (.dct (tabI (onceI ((listed l h s r).map (· / W))) (fun w => .lst ((rowV a b W (listed l h s r) w).map PV.int))))), (w.map SV.val), some (.val (.int (linesOf l h s r W a b z))), some (.val (.lst ((wvs l h s r W).map fun x => PV.int (degL (rowC l h s r W a b x) B)))), none, none], []⟩ = .rt (.lst ((st4 l h s r a b W z B).map PV.int)) ⟨[some (.val (gt l h s r)), some (.val (.int (a))), some (.val (.int (b))), some (.val (.int (W))), some (.val (.int (z))), some (.val (.int (B))), some (.own (.dct (tabI (onceI ((listed l h s r).map (· / W))) (fun w => .lst ((rowV a b W (listed l h s r) w).map PV.int))))), (w.map SV.val), some (.val (.int (linesOf l h s r W a b z))), some (.val (.lst ((wvs l h s r W).map fun x => PV.int (degL (rowC l h s r W a b x) B)))), none, none], []⟩ := ret_at (lst_at (acons_at (callB1_at (p := .lst ((wvs l h s r W).map fun x => PV.int (degL (rowC l h s r W a b x) B))) rfl lnq) (acons_at (s1 := ⟨[some (.val (gt l h s r)), some (.val (.int (a))), some (.val (.int (b))), some (.val (.int (W))), some (.val (.int (z))), some (.val (.int (B))), some (.own (.dct (tabI (onceI ((listed l h s r).map (· / W))) (fun w => .lst ((rowV a b W (listed l h s r) w).map PV.int))))), (w.map SV.val), some (.val (.int (linesOf l h s r W a b z))), some (.val (.lst ((wvs l h s r W).map fun x => PV.int (degL (rowC l h s r W a b x) B)))), none, none], []⟩) rfl (acons_at (callB1_at (p := .lst ((wvs l h s r W).map fun x => PV.int (degL (rowC l h s r W a b x) B))) rfl sd) (acons_at (callB1_at (p := .lst (.int 0 :: ((wvs l h s r W).map fun x => PV.int (degL (rowC l h s r W a b x) B)))) (bin_at (p := .lst [.int 0]) (q := .lst ((wvs l h s r W).map fun x => PV.int (degL (rowC l h s r W a b x) B))) (lst_at (acons_at (s1 := ⟨[some (.val (gt l h s r)), some (.val (.int (a))), some (.val (.int (b))), some (.val (.int (W))), some (.val (.int (z))), some (.val (.int (B))), some (.own (.dct (tabI (onceI ((listed l h s r).map (· / W))) (fun w => .lst ((rowV a b W (listed l h s r) w).map PV.int))))), (w.map SV.val), some (.val (.int (linesOf l h s r W a b z))), some (.val (.lst ((wvs l h s r W).map fun x => PV.int (degL (rowC l h s r W a b x) B)))), none, none], []⟩) rfl rfl) (by show (1 : Nat) ≤ 16777216; decide)) rfl (add_lst (by rw [List.length_map]; show 1 + _ ≤ _; omega))) md) rfl)))) (by show (4 : Nat) ≤ 16777216; decide))
  unfold m__law_stretch
  rw [g__law_stretch_eq]
  simp only [mOf, start0, List.map_cons, List.map_nil, List.length_cons, List.length_nil, Nat.reduceAdd, Nat.reduceSub, List.replicate, List.cons_append, List.nil_append]
  rw [seq_nx t1, seq_nx t2, seq_nx t3, seq_nx t4, seq_rt t5]
  rfl
theorem atL {l : List PV} (i : Nat) {p : PV} (h : l[i]? = some p) : pIx (.lst l) (.int (i : Int)) = some p := atI_at h
theorem callBg {st s1 : Stt} {op : List PV → Option PV} {fa : Stt → Res (List PV)} {l : List PV} {r : PV} (ha : fa st = .ok l s1) (h : op l = some r) : eCallB op fa st = .ok r s1 := by
  unfold eCallB
  rw [ha]
  show Res.opt s1 (op l) = _
  rw [h]
  rfl
theorem gt_zz {st : Stt} {fa fb : Stt → Res PV} {i j : Int} (ha : fa st = .ok (.int i) st) (hb : fb st = .ok (.int j) st) : tOf (eBin pGt fa fb) st = .ok (decide (i > j)) st := by
  simp only [tOf, eBin, ha, hb, Res.bind_ok, pGt, Res.opt_some]
theorem far_turn {l h s r a b W z B P bg m lf u v t f0 f1 f2 f3 U0 U1 U2 U3 : Int} {Q : List PV} {x19 x20 : Option SV} (tb : t.natAbs < 2 ^ 300) (hU0 : U0.natAbs < 2 ^ 300) (hU1 : U1.natAbs < 2 ^ 300) (hU2 : U2.natAbs < 2 ^ 300)
    (hU : (0 < t ∧ m__law_stretch [.val (gt u v s r), .val (.int a), .val (.int b), .val (.int W), .val (.int z), .val (.int B)] [] = .ok (.lst [.int (U0), .int (U1), .int (U2), .int (U3)]) []) ∨ (t = 0 ∧ U0 = 0 ∧ U1 = 0 ∧ U2 = 0 ∧ U3 = 0)) :
    l__law_far_1c ⟨[some (.val (gt l h s r)), some (.val (.int (a))), some (.val (.int (b))), some (.val (.int (W))), some (.val (.int (z))), some (.val (.int (B))), some (.val (.int (l))), some (.val (.int (h))), some (.val (.int (s))), some (.val (.int (r))), some (.val (.int P)), some (.val (.int bg)), some (.val (.int m)), some (.val (.int lf)), some (.val (.lst Q)), some (.val (.lst [.int (f0), .int (f1), .int (f2), .int (f3)])), some (.val (.int (u))), some (.val (.int (v))), some (.val (.int (t))), x19, x20, none], []⟩ = .nx ⟨[some (.val (gt l h s r)), some (.val (.int (a))), some (.val (.int (b))), some (.val (.int (W))), some (.val (.int (z))), some (.val (.int (B))), some (.val (.int (l))), some (.val (.int (h))), some (.val (.int (s))), some (.val (.int (r))), some (.val (.int P)), some (.val (.int bg)), some (.val (.int m)), some (.val (.int lf)), some (.val (.lst Q)), some (.val (.lst [.int (f0 + t * U0), .int (f1 + t * U1), .int (f2 + t * U2), .int (if U3 > f3 then U3 else f3)])), some (.val (.int (u))), some (.val (.int (v))), some (.val (.int (t))), some (.val (.lst [.int (U0), .int (U1), .int (U2), .int (U3)])), some (.val (gt u v s r)), none], []⟩ := by
  have t1 : l__law_far_1c_s1 ⟨[some (.val (gt l h s r)), some (.val (.int (a))), some (.val (.int (b))), some (.val (.int (W))), some (.val (.int (z))), some (.val (.int (B))), some (.val (.int (l))), some (.val (.int (h))), some (.val (.int (s))), some (.val (.int (r))), some (.val (.int P)), some (.val (.int bg)), some (.val (.int m)), some (.val (.int lf)), some (.val (.lst Q)), some (.val (.lst [.int (f0), .int (f1), .int (f2), .int (f3)])), some (.val (.int (u))), some (.val (.int (v))), some (.val (.int (t))), x19, x20, none], []⟩ = .nx ⟨[some (.val (gt l h s r)), some (.val (.int (a))), some (.val (.int (b))), some (.val (.int (W))), some (.val (.int (z))), some (.val (.int (B))), some (.val (.int (l))), some (.val (.int (h))), some (.val (.int (s))), some (.val (.int (r))), some (.val (.int P)), some (.val (.int bg)), some (.val (.int m)), some (.val (.int lf)), some (.val (.lst Q)), some (.val (.lst [.int (f0), .int (f1), .int (f2), .int (f3)])), some (.val (.int (u))), some (.val (.int (v))), some (.val (.int (t))), some (.val (.lst [.int 0, .int 0, .int 0, .int 0])), some (.val (gt u v s r)), none], []⟩ := asgG_at (s1 := ⟨[some (.val (gt l h s r)), some (.val (.int (a))), some (.val (.int (b))), some (.val (.int (W))), some (.val (.int (z))), some (.val (.int (B))), some (.val (.int (l))), some (.val (.int (h))), some (.val (.int (s))), some (.val (.int (r))), some (.val (.int P)), some (.val (.int bg)), some (.val (.int m)), some (.val (.int lf)), some (.val (.lst Q)), some (.val (.lst [.int (f0), .int (f1), .int (f2), .int (f3)])), some (.val (.int (u))), some (.val (.int (v))), some (.val (.int (t))), x19, x20, none], []⟩) (tup_at (l := [.lst [.int 0, .int 0, .int 0, .int 0], gt u v s r]) (acons_at (lst_at (l := [.int 0, .int 0, .int 0, .int 0]) rfl (by show (4 : Nat) ≤ 16777216; decide)) (acons_at (tup_at (l := [.int u, .int v, .int s, .int r]) rfl (by show (4 : Nat) ≤ 16777216; decide)) rfl)) (by show (2 : Nat) ≤ 16777216; decide)) rfl
  have t2 : l__law_far_1c_s2 ⟨[some (.val (gt l h s r)), some (.val (.int (a))), some (.val (.int (b))), some (.val (.int (W))), some (.val (.int (z))), some (.val (.int (B))), some (.val (.int (l))), some (.val (.int (h))), some (.val (.int (s))), some (.val (.int (r))), some (.val (.int P)), some (.val (.int bg)), some (.val (.int m)), some (.val (.int lf)), some (.val (.lst Q)), some (.val (.lst [.int (f0), .int (f1), .int (f2), .int (f3)])), some (.val (.int (u))), some (.val (.int (v))), some (.val (.int (t))), some (.val (.lst [.int 0, .int 0, .int 0, .int 0])), some (.val (gt u v s r)), none], []⟩ = .nx ⟨[some (.val (gt l h s r)), some (.val (.int (a))), some (.val (.int (b))), some (.val (.int (W))), some (.val (.int (z))), some (.val (.int (B))), some (.val (.int (l))), some (.val (.int (h))), some (.val (.int (s))), some (.val (.int (r))), some (.val (.int P)), some (.val (.int bg)), some (.val (.int m)), some (.val (.int lf)), some (.val (.lst Q)), some (.val (.lst [.int (f0), .int (f1), .int (f2), .int (f3)])), some (.val (.int (u))), some (.val (.int (v))), some (.val (.int (t))), some (.val (.lst [.int (U0), .int (U1), .int (U2), .int (U3)])), some (.val (gt u v s r)), none], []⟩ := by
    rcases hU with ⟨h1, h2⟩ | ⟨rfl, rfl, rfl, rfl, rfl⟩
    · refine (if_yesZ ((gt_zz (i := t) (j := 0) rfl rfl).trans (by rw [decide_eq_true h1]))).trans ?_
      exact oneZ (asg_at (s1 := ⟨[some (.val (gt l h s r)), some (.val (.int (a))), some (.val (.int (b))), some (.val (.int (W))), some (.val (.int (z))), some (.val (.int (B))), some (.val (.int (l))), some (.val (.int (h))), some (.val (.int (s))), some (.val (.int (r))), some (.val (.int P)), some (.val (.int bg)), some (.val (.int m)), some (.val (.int lf)), some (.val (.lst Q)), some (.val (.lst [.int (f0), .int (f1), .int (f2), .int (f3)])), some (.val (.int (u))), some (.val (.int (v))), some (.val (.int (t))), some (.val (.lst [.int 0, .int 0, .int 0, .int 0])), some (.val (gt u v s r)), none], []⟩) (call6_ok (p0 := gt u v s r) rfl rfl rfl rfl rfl rfl h2) rfl)
    · exact if_no ((gt_zz (i := 0) (j := 0) rfl rfl).trans rfl)
  have cl := compL3 (vs := [21]) (a := l__law_far_2c) (fe := l__law_far_2e) (s0 := ⟨[some (.val (gt l h s r)), some (.val (.int (a))), some (.val (.int (b))), some (.val (.int (W))), some (.val (.int (z))), some (.val (.int (B))), some (.val (.int (l))), some (.val (.int (h))), some (.val (.int (s))), some (.val (.int (r))), some (.val (.int P)), some (.val (.int bg)), some (.val (.int m)), some (.val (.int lf)), some (.val (.lst Q)), some (.val (.lst [.int (f0), .int (f1), .int (f2), .int (f3)])), some (.val (.int (u))), some (.val (.int (v))), some (.val (.int (t))), some (.val (.lst [.int (U0), .int (U1), .int (U2), .int (U3)])), some (.val (gt u v s r)), none], []⟩) (s1 := ⟨[some (.val (gt l h s r)), some (.val (.int (a))), some (.val (.int (b))), some (.val (.int (W))), some (.val (.int (z))), some (.val (.int (B))), some (.val (.int (l))), some (.val (.int (h))), some (.val (.int (s))), some (.val (.int (r))), some (.val (.int P)), some (.val (.int bg)), some (.val (.int m)), some (.val (.int lf)), some (.val (.lst Q)), some (.val (.lst [.int (f0), .int (f1), .int (f2), .int (f3)])), some (.val (.int (u))), some (.val (.int (v))), some (.val (.int (t))), some (.val (.lst [.int (U0), .int (U1), .int (U2), .int (U3)])), some (.val (gt u v s r)), none], []⟩) (s2 := ⟨[some (.val (gt l h s r)), some (.val (.int (a))), some (.val (.int (b))), some (.val (.int (W))), some (.val (.int (z))), some (.val (.int (B))), some (.val (.int (l))), some (.val (.int (h))), some (.val (.int (s))), some (.val (.int (r))), some (.val (.int P)), some (.val (.int bg)), some (.val (.int m)), some (.val (.int lf)), some (.val (.lst Q)), some (.val (.lst [.int (f0), .int (f1), .int (f2), .int (f3)])), some (.val (.int (u))), some (.val (.int (v))), some (.val (.int (t))), some (.val (.lst [.int (U0), .int (U1), .int (U2), .int (U3)])), some (.val (gt u v s r)), none], []⟩) (s3 := ⟨[some (.val (gt l h s r)), some (.val (.int (a))), some (.val (.int (b))), some (.val (.int (W))), some (.val (.int (z))), some (.val (.int (B))), some (.val (.int (l))), some (.val (.int (h))), some (.val (.int (s))), some (.val (.int (r))), some (.val (.int P)), some (.val (.int bg)), some (.val (.int m)), some (.val (.int lf)), some (.val (.lst Q)), some (.val (.lst [.int (f0), .int (f1), .int (f2), .int (f3)])), some (.val (.int (u))), some (.val (.int (v))), some (.val (.int (t))), some (.val (.lst [.int (U0), .int (U1), .int (U2), .int (U3)])), some (.val (gt u v s r)), none], []⟩) (u0 := ⟨[some (.val (gt l h s r)), some (.val (.int (a))), some (.val (.int (b))), some (.val (.int (W))), some (.val (.int (z))), some (.val (.int (B))), some (.val (.int (l))), some (.val (.int (h))), some (.val (.int (s))), some (.val (.int (r))), some (.val (.int P)), some (.val (.int bg)), some (.val (.int m)), some (.val (.int lf)), some (.val (.lst Q)), some (.val (.lst [.int (f0), .int (f1), .int (f2), .int (f3)])), some (.val (.int (u))), some (.val (.int (v))), some (.val (.int (t))), some (.val (.lst [.int (U0), .int (U1), .int (U2), .int (U3)])), some (.val (gt u v s r)), some (.val (.int (0)))], []⟩) (u1 := ⟨[some (.val (gt l h s r)), some (.val (.int (a))), some (.val (.int (b))), some (.val (.int (W))), some (.val (.int (z))), some (.val (.int (B))), some (.val (.int (l))), some (.val (.int (h))), some (.val (.int (s))), some (.val (.int (r))), some (.val (.int P)), some (.val (.int bg)), some (.val (.int m)), some (.val (.int lf)), some (.val (.lst Q)), some (.val (.lst [.int (f0), .int (f1), .int (f2), .int (f3)])), some (.val (.int (u))), some (.val (.int (v))), some (.val (.int (t))), some (.val (.lst [.int (U0), .int (U1), .int (U2), .int (U3)])), some (.val (gt u v s r)), some (.val (.int (1)))], []⟩) (u2 := ⟨[some (.val (gt l h s r)), some (.val (.int (a))), some (.val (.int (b))), some (.val (.int (W))), some (.val (.int (z))), some (.val (.int (B))), some (.val (.int (l))), some (.val (.int (h))), some (.val (.int (s))), some (.val (.int (r))), some (.val (.int P)), some (.val (.int bg)), some (.val (.int m)), some (.val (.int lf)), some (.val (.lst Q)), some (.val (.lst [.int (f0), .int (f1), .int (f2), .int (f3)])), some (.val (.int (u))), some (.val (.int (v))), some (.val (.int (t))), some (.val (.lst [.int (U0), .int (U1), .int (U2), .int (U3)])), some (.val (gt u v s r)), some (.val (.int (2)))], []⟩) (p0 := .int 0) (p1 := .int 1) (p2 := .int 2) rfl (bin_at (p := .int f0) (q := .int (t * U0)) (bin_at (p := .lst [.int (f0), .int (f1), .int (f2), .int (f3)]) (q := .int 0) rfl rfl (atL 0 rfl)) (bin_at (p := .int t) (q := .int U0) rfl (bin_at (p := .lst [.int (U0), .int (U1), .int (U2), .int (U3)]) (q := .int 0) rfl rfl (atL 0 rfl)) (if_pos (okMul_of (a := 300) (b := 300) tb hU0 (by decide) (by decide) (by decide)))) rfl) rfl rfl (bin_at (p := .int f1) (q := .int (t * U1)) (bin_at (p := .lst [.int (f0), .int (f1), .int (f2), .int (f3)]) (q := .int 1) rfl rfl (atL 1 rfl)) (bin_at (p := .int t) (q := .int U1) rfl (bin_at (p := .lst [.int (U0), .int (U1), .int (U2), .int (U3)]) (q := .int 1) rfl rfl (atL 1 rfl)) (if_pos (okMul_of (a := 300) (b := 300) tb hU1 (by decide) (by decide) (by decide)))) rfl) rfl rfl (bin_at (p := .int f2) (q := .int (t * U2)) (bin_at (p := .lst [.int (f0), .int (f1), .int (f2), .int (f3)]) (q := .int 2) rfl rfl (atL 2 rfl)) (bin_at (p := .int t) (q := .int U2) rfl (bin_at (p := .lst [.int (U0), .int (U1), .int (U2), .int (U3)]) (q := .int 2) rfl rfl (atL 2 rfl)) (if_pos (okMul_of (a := 300) (b := 300) tb hU2 (by decide) (by decide) (by decide)))) rfl) rfl
  have t3 : l__law_far_1c_s3 ⟨[some (.val (gt l h s r)), some (.val (.int (a))), some (.val (.int (b))), some (.val (.int (W))), some (.val (.int (z))), some (.val (.int (B))), some (.val (.int (l))), some (.val (.int (h))), some (.val (.int (s))), some (.val (.int (r))), some (.val (.int P)), some (.val (.int bg)), some (.val (.int m)), some (.val (.int lf)), some (.val (.lst Q)), some (.val (.lst [.int (f0), .int (f1), .int (f2), .int (f3)])), some (.val (.int (u))), some (.val (.int (v))), some (.val (.int (t))), some (.val (.lst [.int (U0), .int (U1), .int (U2), .int (U3)])), some (.val (gt u v s r)), none], []⟩ = .nx ⟨[some (.val (gt l h s r)), some (.val (.int (a))), some (.val (.int (b))), some (.val (.int (W))), some (.val (.int (z))), some (.val (.int (B))), some (.val (.int (l))), some (.val (.int (h))), some (.val (.int (s))), some (.val (.int (r))), some (.val (.int P)), some (.val (.int bg)), some (.val (.int m)), some (.val (.int lf)), some (.val (.lst Q)), some (.val (.lst [.int (f0 + t * U0), .int (f1 + t * U1), .int (f2 + t * U2), .int (if U3 > f3 then U3 else f3)])), some (.val (.int (u))), some (.val (.int (v))), some (.val (.int (t))), some (.val (.lst [.int (U0), .int (U1), .int (U2), .int (U3)])), some (.val (gt u v s r)), none], []⟩ := asg_at (s1 := ⟨[some (.val (gt l h s r)), some (.val (.int (a))), some (.val (.int (b))), some (.val (.int (W))), some (.val (.int (z))), some (.val (.int (B))), some (.val (.int (l))), some (.val (.int (h))), some (.val (.int (s))), some (.val (.int (r))), some (.val (.int P)), some (.val (.int bg)), some (.val (.int m)), some (.val (.int lf)), some (.val (.lst Q)), some (.val (.lst [.int (f0), .int (f1), .int (f2), .int (f3)])), some (.val (.int (u))), some (.val (.int (v))), some (.val (.int (t))), some (.val (.lst [.int (U0), .int (U1), .int (U2), .int (U3)])), some (.val (gt u v s r)), none], []⟩) (bin_at (p := .lst [.int (f0 + t * U0), .int (f1 + t * U1), .int (f2 + t * U2)]) (q := .lst [.int (if U3 > f3 then U3 else f3)]) (comp_at (l := [.int 0, .int 1, .int 2]) (s1 := ⟨[some (.val (gt l h s r)), some (.val (.int (a))), some (.val (.int (b))), some (.val (.int (W))), some (.val (.int (z))), some (.val (.int (B))), some (.val (.int (l))), some (.val (.int (h))), some (.val (.int (s))), some (.val (.int (r))), some (.val (.int P)), some (.val (.int bg)), some (.val (.int m)), some (.val (.int lf)), some (.val (.lst Q)), some (.val (.lst [.int (f0), .int (f1), .int (f2), .int (f3)])), some (.val (.int (u))), some (.val (.int (v))), some (.val (.int (t))), some (.val (.lst [.int (U0), .int (U1), .int (U2), .int (U3)])), some (.val (gt u v s r)), none], []⟩) rfl cl rfl) (lst_at (acons_at (callBg (l := [.int f3, .int U3]) (acons_at (bin_at (p := .lst [.int (f0), .int (f1), .int (f2), .int (f3)]) (q := .int 3) rfl rfl (atL 3 rfl)) (acons_at (bin_at (p := .lst [.int (U0), .int (U1), .int (U2), .int (U3)]) (q := .int 3) rfl rfl (atL 3 rfl)) rfl)) rfl) rfl) (by show (1 : Nat) ≤ 16777216; decide)) (add_lst (by show (3 : Nat) + 1 ≤ 16777216; decide))) rfl
  unfold l__law_far_1c
  rw [seq_nx t1, seq_nx t2]
  exact oneZ t3
theorem sum_bd : ∀ l : List Int, (∀ x ∈ l, 0 ≤ x ∧ x ≤ 1000) → 0 ≤ l.sum ∧ l.sum ≤ 1000 * (l.length : Int)
  | [], _ => ⟨Int.le_refl _, Int.le_refl _⟩
  | x :: r, h => by
    have h1 := h x List.mem_cons_self
    have h2 := sum_bd r fun y hy => h y (List.mem_cons_of_mem _ hy)
    rw [List.sum_cons, List.length_cons]
    omega
theorem degL_bd (cells : List Int) (b : Int) : 0 ≤ degL cells b ∧ degL cells b ≤ (cells.length : Int) := by
  refine ⟨maxI_0 _, ?_⟩
  unfold degL
  obtain ⟨h1, _⟩ := maxI_mem (l := 0 :: ((sortU cells).map (· % b)).map fun p => ((((sortU cells).map (· % b)).count p : Nat) : Int)) (by simp)
  rcases List.mem_cons.mp h1 with e | h1
  · rw [e]; omega
  · obtain ⟨p, _, e⟩ := List.mem_map.mp h1
    rw [← e]
    have := List.count_le_length (a := p) (l := (sortU cells).map (· % b))
    rw [List.length_map] at this
    have := sortU_le cells
    omega
theorem st4_bd {l h s r a b W z B : Int} (g : Gs l h s r) (hW : 1 ≤ W ∧ W ≤ 32) (hz : h - l ≤ 1000000) : (((wvs l h s r W).length : Nat) : Int).natAbs < 2 ^ 300 ∧ (linesOf l h s r W a b z).natAbs < 2 ^ 300 ∧ (((wvs l h s r W).map fun x => degL (rowC l h s r W a b x) B).sum).natAbs < 2 ^ 300 := by
  have ll : (listed l h s r).length ≤ 1000000 := by
    unfold listed
    refine Nat.le_trans (List.length_filter_le _ _) ?_
    unfold seqI
    rw [List.length_map, List.length_range]
    omega
  have ol := once_len ((listed l h s r).map (· / W))
  rw [List.length_map] at ol
  have wl : (wvs l h s r W).length ≤ 1000000 := Nat.le_trans ol ll
  have k : (2000000000 : Nat) < 2 ^ 300 := by decide +kernel
  have l1 : linesOf l h s r W a b z ≤ 1000000 := Int.le_trans (lines_le g.s0 g.r0 g.r1) (Int.le_trans (lanes_le' g.s0 g.lh) hz)
  have l2 : 0 ≤ linesOf l h s r W a b z := by unfold PN.linesOf; omega
  have sb := sum_bd ((wvs l h s r W).map fun x => degL (rowC l h s r W a b x) B) fun y hy => by
    obtain ⟨x, _, rfl⟩ := List.mem_map.mp hy
    have := degL_bd (rowC l h s r W a b x) B
    have := row_len (l := l) (h := h) (s := s) (r := r) (a := a) (b := b) (w := x) hW
    omega
  rw [List.length_map] at sb
  exact ⟨Nat.lt_of_le_of_lt (m := 2000000000) (by omega) k, Nat.lt_of_le_of_lt (m := 2000000000) (by omega) k, Nat.lt_of_le_of_lt (m := 2000000000) (by omega) k⟩
def mx2 (f t : Int) : Int := if t > f then t else f
def cI (i : Nat) (l : List Int) : Int := l.getD i 0
/-- what is told of very many lanes -/
def farV (l h s r a b W z B P : Int) : List Int :=
  let bg := begF l h W
  let m := (h - bg) / P
  let lf := (h - bg) % P
  let A := st4 l bg s r a b W z B
  let M := if 0 < m then st4 bg (bg + P) s r a b W z B else [0, 0, 0, 0]
  let Z := st4 bg (bg + lf) s r a b W z B
  [((0 + 1 * cI 0 A) + m * cI 0 M) + 1 * cI 0 Z, ((0 + 1 * cI 1 A) + m * cI 1 M) + 1 * cI 1 Z, ((0 + 1 * cI 2 A) + m * cI 2 M) + 1 * cI 2 Z, mx2 (mx2 (mx2 0 (cI 3 A)) (cI 3 M)) (cI 3 Z)]
theorem e_far {l h s r a b W z B : Int} (g : Gs l h s r) (hb : h ≤ 10000000000000000000000000000000) (hW : 1 ≤ W ∧ W ≤ 32) (z0 : 1 ≤ z ∧ z ≤ 1000) (B0 : 1 ≤ B ∧ B ≤ 1000) (hP : (W * s) * (z * B) ≤ 1000000) (ab : a.natAbs < 2 ^ 300) :
    ∃ P : Int, 1 ≤ P ∧ P ≤ 1000000 ∧ P % W = 0 ∧ P % s = 0 ∧ P % z = 0 ∧ P % B = 0 ∧ m__law_far [.val (gt l h s r), .val (.int a), .val (.int b), .val (.int W), .val (.int z), .val (.int B)] [] = .ok (.lst ((farV l h s r a b W z B P).map PV.int)) [] := by
  have s0 := g.s0
  have l0 := g.l0
  have lh := g.lh
  obtain ⟨P1, e1, p10, p1l, p1W, p1s⟩ := e_common (x := W) (y := s) hW.1 (by omega)
  obtain ⟨P2, e2, p20, p2l, p2z, p2B⟩ := e_common (x := z) (y := B) z0.1 B0.1
  obtain ⟨P, e3, p0, pl, pP1, pP2⟩ := e_common (x := P1) (y := P2) p10 p20
  have tr : ∀ {x y : Int}, P % x = 0 → x % y = 0 → P % y = 0 := fun {x y} h1 h2 => Int.emod_eq_zero_of_dvd (Int.dvd_trans (Int.dvd_of_emod_eq_zero h2) (Int.dvd_of_emod_eq_zero h1))
  have Pb : P ≤ 1000000 := by
    have : P1 * P2 ≤ (W * s) * (z * B) := Int.mul_le_mul p1l p2l (by omega) (Int.mul_nonneg (by omega) (by omega))
    omega
  refine ⟨P, p0, Pb, tr pP1 p1W, tr pP1 p1s, tr pP2 p2z, tr pP2 p2B, ?_⟩
  obtain ⟨b1, b2, b3⟩ := beg_ok (l := l) (h := h) (W := W) (by omega) lh
  have bw : begF l h W - l ≤ 1000000 := by
    have e := Int.mul_ediv_add_emod (l + W - 1) W
    have q := Int.emod_nonneg (l + W - 1) (show W ≠ 0 by omega)
    have k : (l + W - 1) / W * W = W * ((l + W - 1) / W) := Int.mul_comm _ _
    unfold begF
    omega
  have em := Int.mul_ediv_add_emod (h - begF l h W) P
  have q0 : 0 ≤ (h - begF l h W) / P := Int.ediv_nonneg (by omega) (by omega)
  have r0 := Int.emod_nonneg (h - begF l h W) (show P ≠ 0 by omega)
  have r1 := Int.emod_lt_of_pos (h - begF l h W) (show 0 < P by omega)
  have mb : (h - begF l h W) / P ≤ h - begF l h W := Int.ediv_le_self _ (by omega)
  obtain ⟨bg, hbg⟩ : ∃ bg, bg = begF l h W := ⟨_, rfl⟩
  obtain ⟨m, hm⟩ : ∃ m, m = (h - bg) / P := ⟨_, rfl⟩
  obtain ⟨lf, hlf⟩ : ∃ lf, lf = (h - bg) % P := ⟨_, rfl⟩
  obtain ⟨A, hA⟩ : ∃ A, A = st4 l bg s r a b W z B := ⟨_, rfl⟩
  obtain ⟨M, hM⟩ : ∃ M, M = if 0 < m then st4 bg (bg + P) s r a b W z B else [0, 0, 0, 0] := ⟨_, rfl⟩
  obtain ⟨Z, hZ⟩ : ∃ Z, Z = st4 bg (bg + lf) s r a b W z B := ⟨_, rfl⟩
  have fv : farV l h s r a b W z B P = [((0 + 1 * cI 0 A) + m * cI 0 M) + 1 * cI 0 Z, ((0 + 1 * cI 1 A) + m * cI 1 M) + 1 * cI 1 Z, ((0 + 1 * cI 2 A) + m * cI 2 M) + 1 * cI 2 Z, mx2 (mx2 (mx2 0 (cI 3 A)) (cI 3 M)) (cI 3 Z)] := by
    rw [hA, hM, hZ, hlf, hm, hbg]
    rfl
  rw [← hbg] at b1 b2 b3 bw em q0 r0 r1 mb
  rw [← hm] at em q0 mb
  rw [← hlf] at em r0 r1
  have p31 : (10000000000000000000000000000000 : Int) < 2 ^ 200 - 2000000 := by decide +kernel
  have n31 : (10000000000000000000000000000000 : Nat) < 2 ^ 200 := by decide +kernel
  have n300 : (2 : Nat) ^ 200 < 2 ^ 300 := by decide +kernel
  have g1 : Gs l bg s r := ⟨l0, b1, by omega, g.r0, g.r1, g.sb⟩
  have g2 : Gs bg (bg + P) s r := ⟨by omega, by omega, by omega, g.r0, g.r1, g.sb⟩
  have g3 : Gs bg (bg + lf) s r := ⟨by omega, by omega, by omega, g.r0, g.r1, g.sb⟩
  have zd : okDiv z = true := okD (by omega) (by omega)
  have k1 := e_stretch (a := a) (b := b) (W := W) (z := z) (B := B) g1 hW (by omega) zd (by omega) bw ab
  have k2 := e_stretch (a := a) (b := b) (W := W) (z := z) (B := B) g2 hW (by omega) zd (by omega) (by omega) ab
  have k3 := e_stretch (a := a) (b := b) (W := W) (z := z) (B := B) g3 hW (by omega) zd (by omega) (by omega) ab
  have m300 : m.natAbs < 2 ^ 300 := Nat.lt_trans (Nat.lt_of_le_of_lt (m := 10000000000000000000000000000000) (by omega) n31) n300
  have u1 := st4_bd (a := a) (b := b) (z := z) (B := B) g1 hW bw
  have u2 := st4_bd (a := a) (b := b) (z := z) (B := B) g2 hW (by omega)
  have u3 := st4_bd (a := a) (b := b) (z := z) (B := B) g3 hW (by omega)
  have one3 : (1 : Int).natAbs < 2 ^ 300 := by decide +kernel
  have f1 : l__law_far_1c ⟨[some (.val (gt l h s r)), some (.val (.int (a))), some (.val (.int (b))), some (.val (.int (W))), some (.val (.int (z))), some (.val (.int (B))), some (.val (.int (l))), some (.val (.int (h))), some (.val (.int (s))), some (.val (.int (r))), some (.val (.int P)), some (.val (.int bg)), some (.val (.int m)), some (.val (.int lf)), some (.val (.lst [.tup [.int l, .int bg, .int 1], .tup [.int bg, .int (bg + P), .int m], .tup [.int bg, .int (bg + lf), .int 1]])), some (.val (.lst [.int 0, .int 0, .int 0, .int 0])), some (.val (.int (l))), some (.val (.int (bg))), some (.val (.int (1))), none, none, none], []⟩ = .nx ⟨[some (.val (gt l h s r)), some (.val (.int (a))), some (.val (.int (b))), some (.val (.int (W))), some (.val (.int (z))), some (.val (.int (B))), some (.val (.int (l))), some (.val (.int (h))), some (.val (.int (s))), some (.val (.int (r))), some (.val (.int P)), some (.val (.int bg)), some (.val (.int m)), some (.val (.int lf)), some (.val (.lst [.tup [.int l, .int bg, .int 1], .tup [.int bg, .int (bg + P), .int m], .tup [.int bg, .int (bg + lf), .int 1]])), some (.val (.lst [.int (0 + 1 * cI 0 A), .int (0 + 1 * cI 1 A), .int (0 + 1 * cI 2 A), .int (mx2 0 (cI 3 A))])), some (.val (.int (l))), some (.val (.int (bg))), some (.val (.int (1))), some (.val (.lst [.int (cI 0 (A)), .int (cI 1 (A)), .int (cI 2 (A)), .int (cI 3 (A))])), some (.val (gt l bg s r)), none], []⟩ := far_turn one3 (by rw [hA]; exact u1.1) (by rw [hA]; exact u1.2.1) (by rw [hA]; exact u1.2.2) (.inl ⟨by decide, by rw [k1, hA]; rfl⟩)
  have MU : (cI 0 M).natAbs < 2 ^ 300 ∧ (cI 1 M).natAbs < 2 ^ 300 ∧ (cI 2 M).natAbs < 2 ^ 300 ∧ ((0 < m ∧ m__law_stretch [.val (gt bg (bg + P) s r), .val (.int a), .val (.int b), .val (.int W), .val (.int z), .val (.int B)] [] = .ok (.lst [.int (cI 0 (M)), .int (cI 1 (M)), .int (cI 2 (M)), .int (cI 3 (M))]) []) ∨ (m = 0 ∧ cI 0 M = 0 ∧ cI 1 M = 0 ∧ cI 2 M = 0 ∧ cI 3 M = 0)) := by
    by_cases c : 0 < m
    · rw [if_pos c] at hM
      rw [hM]
      exact ⟨u2.1, u2.2.1, u2.2.2, .inl ⟨c, k2⟩⟩
    · rw [if_neg c] at hM
      rw [hM]
      have z3 : (0 : Int).natAbs < 2 ^ 300 := by decide +kernel
      exact ⟨z3, z3, z3, .inr ⟨by omega, rfl, rfl, rfl, rfl⟩⟩
  have f2 : l__law_far_1c ⟨[some (.val (gt l h s r)), some (.val (.int (a))), some (.val (.int (b))), some (.val (.int (W))), some (.val (.int (z))), some (.val (.int (B))), some (.val (.int (l))), some (.val (.int (h))), some (.val (.int (s))), some (.val (.int (r))), some (.val (.int P)), some (.val (.int bg)), some (.val (.int m)), some (.val (.int lf)), some (.val (.lst [.tup [.int l, .int bg, .int 1], .tup [.int bg, .int (bg + P), .int m], .tup [.int bg, .int (bg + lf), .int 1]])), some (.val (.lst [.int (0 + 1 * cI 0 A), .int (0 + 1 * cI 1 A), .int (0 + 1 * cI 2 A), .int (mx2 0 (cI 3 A))])), some (.val (.int (bg))), some (.val (.int (bg + P))), some (.val (.int (m))), some (.val (.lst [.int (cI 0 (A)), .int (cI 1 (A)), .int (cI 2 (A)), .int (cI 3 (A))])), some (.val (gt l bg s r)), none], []⟩ = .nx ⟨[some (.val (gt l h s r)), some (.val (.int (a))), some (.val (.int (b))), some (.val (.int (W))), some (.val (.int (z))), some (.val (.int (B))), some (.val (.int (l))), some (.val (.int (h))), some (.val (.int (s))), some (.val (.int (r))), some (.val (.int P)), some (.val (.int bg)), some (.val (.int m)), some (.val (.int lf)), some (.val (.lst [.tup [.int l, .int bg, .int 1], .tup [.int bg, .int (bg + P), .int m], .tup [.int bg, .int (bg + lf), .int 1]])), some (.val (.lst [.int ((0 + 1 * cI 0 A) + m * cI 0 M), .int ((0 + 1 * cI 1 A) + m * cI 1 M), .int ((0 + 1 * cI 2 A) + m * cI 2 M), .int (mx2 (mx2 0 (cI 3 A)) (cI 3 M))])), some (.val (.int (bg))), some (.val (.int (bg + P))), some (.val (.int (m))), some (.val (.lst [.int (cI 0 (M)), .int (cI 1 (M)), .int (cI 2 (M)), .int (cI 3 (M))])), some (.val (gt bg (bg + P) s r)), none], []⟩ := far_turn m300 MU.1 MU.2.1 MU.2.2.1 MU.2.2.2
  have f3 : l__law_far_1c ⟨[some (.val (gt l h s r)), some (.val (.int (a))), some (.val (.int (b))), some (.val (.int (W))), some (.val (.int (z))), some (.val (.int (B))), some (.val (.int (l))), some (.val (.int (h))), some (.val (.int (s))), some (.val (.int (r))), some (.val (.int P)), some (.val (.int bg)), some (.val (.int m)), some (.val (.int lf)), some (.val (.lst [.tup [.int l, .int bg, .int 1], .tup [.int bg, .int (bg + P), .int m], .tup [.int bg, .int (bg + lf), .int 1]])), some (.val (.lst [.int ((0 + 1 * cI 0 A) + m * cI 0 M), .int ((0 + 1 * cI 1 A) + m * cI 1 M), .int ((0 + 1 * cI 2 A) + m * cI 2 M), .int (mx2 (mx2 0 (cI 3 A)) (cI 3 M))])), some (.val (.int (bg))), some (.val (.int (bg + lf))), some (.val (.int (1))), some (.val (.lst [.int (cI 0 (M)), .int (cI 1 (M)), .int (cI 2 (M)), .int (cI 3 (M))])), some (.val (gt bg (bg + P) s r)), none], []⟩ = .nx ⟨[some (.val (gt l h s r)), some (.val (.int (a))), some (.val (.int (b))), some (.val (.int (W))), some (.val (.int (z))), some (.val (.int (B))), some (.val (.int (l))), some (.val (.int (h))), some (.val (.int (s))), some (.val (.int (r))), some (.val (.int P)), some (.val (.int bg)), some (.val (.int m)), some (.val (.int lf)), some (.val (.lst [.tup [.int l, .int bg, .int 1], .tup [.int bg, .int (bg + P), .int m], .tup [.int bg, .int (bg + lf), .int 1]])), some (.val (.lst [.int (((0 + 1 * cI 0 A) + m * cI 0 M) + 1 * cI 0 Z), .int (((0 + 1 * cI 1 A) + m * cI 1 M) + 1 * cI 1 Z), .int (((0 + 1 * cI 2 A) + m * cI 2 M) + 1 * cI 2 Z), .int (mx2 (mx2 (mx2 0 (cI 3 A)) (cI 3 M)) (cI 3 Z))])), some (.val (.int (bg))), some (.val (.int (bg + lf))), some (.val (.int (1))), some (.val (.lst [.int (cI 0 (Z)), .int (cI 1 (Z)), .int (cI 2 (Z)), .int (cI 3 (Z))])), some (.val (gt bg (bg + lf) s r)), none], []⟩ := far_turn one3 (by rw [hZ]; exact u3.1) (by rw [hZ]; exact u3.2.1) (by rw [hZ]; exact u3.2.2) (.inl ⟨by decide, by rw [k3, hZ]; rfl⟩)
  have Wd : okDiv W = true := okD (by omega) (by omega)
  have Pd : okDiv P = true := okD (by omega) (by omega)
  have t1 : q__law_far_1 ⟨[some (.val (gt l h s r)), some (.val (.int (a))), some (.val (.int (b))), some (.val (.int (W))), some (.val (.int (z))), some (.val (.int (B))), none, none, none, none, none, none, none, none, none, none, none, none, none, none, none, none], []⟩ = .nx ⟨[some (.val (gt l h s r)), some (.val (.int (a))), some (.val (.int (b))), some (.val (.int (W))), some (.val (.int (z))), some (.val (.int (B))), some (.val (.int (l))), some (.val (.int (h))), some (.val (.int (s))), some (.val (.int (r))), none, none, none, none, none, none, none, none, none, none, none, none], []⟩ := rfl
  have t2 : q__law_far_2 ⟨[some (.val (gt l h s r)), some (.val (.int (a))), some (.val (.int (b))), some (.val (.int (W))), some (.val (.int (z))), some (.val (.int (B))), some (.val (.int (l))), some (.val (.int (h))), some (.val (.int (s))), some (.val (.int (r))), none, none, none, none, none, none, none, none, none, none, none, none], []⟩ = .nx ⟨[some (.val (gt l h s r)), some (.val (.int (a))), some (.val (.int (b))), some (.val (.int (W))), some (.val (.int (z))), some (.val (.int (B))), some (.val (.int (l))), some (.val (.int (h))), some (.val (.int (s))), some (.val (.int (r))), some (.val (.int P)), none, none, none, none, none, none, none, none, none, none, none], []⟩ := asg_at (s1 := ⟨[some (.val (gt l h s r)), some (.val (.int (a))), some (.val (.int (b))), some (.val (.int (W))), some (.val (.int (z))), some (.val (.int (B))), some (.val (.int (l))), some (.val (.int (h))), some (.val (.int (s))), some (.val (.int (r))), none, none, none, none, none, none, none, none, none, none, none, none], []⟩) (call2_ok (call2_ok rfl rfl e1) (call2_ok rfl rfl e2) e3) rfl
  have bq : (if (l + W - 1) / W * W < h then (l + W - 1) / W * W else h) = bg := by
    rw [hbg]
    unfold begF
    split <;> omega
  have wv : (l + W - 1) / W ≤ l + W - 1 := Int.ediv_le_self _ (by omega)
  have wv0 : 0 ≤ (l + W - 1) / W := Int.ediv_nonneg (by omega) (by omega)
  have t3 : q__law_far_3 ⟨[some (.val (gt l h s r)), some (.val (.int (a))), some (.val (.int (b))), some (.val (.int (W))), some (.val (.int (z))), some (.val (.int (B))), some (.val (.int (l))), some (.val (.int (h))), some (.val (.int (s))), some (.val (.int (r))), some (.val (.int P)), none, none, none, none, none, none, none, none, none, none, none], []⟩ = .nx ⟨[some (.val (gt l h s r)), some (.val (.int (a))), some (.val (.int (b))), some (.val (.int (W))), some (.val (.int (z))), some (.val (.int (B))), some (.val (.int (l))), some (.val (.int (h))), some (.val (.int (s))), some (.val (.int (r))), some (.val (.int P)), some (.val (.int bg)), none, none, none, none, none, none, none, none, none, none], []⟩ := asg_at (s1 := ⟨[some (.val (gt l h s r)), some (.val (.int (a))), some (.val (.int (b))), some (.val (.int (W))), some (.val (.int (z))), some (.val (.int (B))), some (.val (.int (l))), some (.val (.int (h))), some (.val (.int (s))), some (.val (.int (r))), some (.val (.int P)), none, none, none, none, none, none, none, none, none, none, none], []⟩) (callBg (l := [.int h, .int ((l + W - 1) / W * W)]) (acons_at (s1 := ⟨[some (.val (gt l h s r)), some (.val (.int (a))), some (.val (.int (b))), some (.val (.int (W))), some (.val (.int (z))), some (.val (.int (B))), some (.val (.int (l))), some (.val (.int (h))), some (.val (.int (s))), some (.val (.int (r))), some (.val (.int P)), none, none, none, none, none, none, none, none, none, none, none], []⟩) rfl (acons_at (bin_at (p := .int ((l + W - 1) / W)) (q := .int W) (bin_at (p := .int (l + W - 1)) (q := .int W) (bin_at (p := .int (l + W)) (q := .int 1) (bin_at (p := .int l) (q := .int W) rfl rfl rfl) rfl rfl) rfl (divI (by omega) Wd)) rfl (if_pos (okMul_of (a := 300) (b := 300) (Nat.lt_trans (Nat.lt_of_le_of_lt (m := 20000000000000000000000000000000) (by omega) (by decide +kernel : (20000000000000000000000000000000 : Nat) < 2 ^ 200)) n300) (Nat.lt_of_le_of_lt (m := 32) (by omega) (by decide +kernel)) (by decide) (by decide) (by decide)))) rfl)) (by
    show some (PV.int (if (l + W - 1) / W * W < h then (l + W - 1) / W * W else h)) = _
    rw [bq])) rfl
  have t4 : q__law_far_4 ⟨[some (.val (gt l h s r)), some (.val (.int (a))), some (.val (.int (b))), some (.val (.int (W))), some (.val (.int (z))), some (.val (.int (B))), some (.val (.int (l))), some (.val (.int (h))), some (.val (.int (s))), some (.val (.int (r))), some (.val (.int P)), some (.val (.int bg)), none, none, none, none, none, none, none, none, none, none], []⟩ = .nx ⟨[some (.val (gt l h s r)), some (.val (.int (a))), some (.val (.int (b))), some (.val (.int (W))), some (.val (.int (z))), some (.val (.int (B))), some (.val (.int (l))), some (.val (.int (h))), some (.val (.int (s))), some (.val (.int (r))), some (.val (.int P)), some (.val (.int bg)), some (.val (.int m)), some (.val (.int lf)), none, none, none, none, none, none, none, none], []⟩ := par_at (s1 := ⟨[some (.val (gt l h s r)), some (.val (.int (a))), some (.val (.int (b))), some (.val (.int (W))), some (.val (.int (z))), some (.val (.int (B))), some (.val (.int (l))), some (.val (.int (h))), some (.val (.int (s))), some (.val (.int (r))), some (.val (.int P)), some (.val (.int bg)), none, none, none, none, none, none, none, none, none, none], []⟩) (acons_at (bin_at (p := .int (h - bg)) (q := .int P) (bin_at (p := .int h) (q := .int bg) rfl rfl rfl) rfl (by rw [divI (by omega) Pd, ← hm])) (acons_at (bin_at (p := .int (h - bg)) (q := .int P) (bin_at (p := .int h) (q := .int bg) rfl rfl rfl) rfl (by rw [modI (by omega), ← hlf])) rfl)) rfl
  have t5 : q__law_far_5 ⟨[some (.val (gt l h s r)), some (.val (.int (a))), some (.val (.int (b))), some (.val (.int (W))), some (.val (.int (z))), some (.val (.int (B))), some (.val (.int (l))), some (.val (.int (h))), some (.val (.int (s))), some (.val (.int (r))), some (.val (.int P)), some (.val (.int bg)), some (.val (.int m)), some (.val (.int lf)), none, none, none, none, none, none, none, none], []⟩ = .nx ⟨[some (.val (gt l h s r)), some (.val (.int (a))), some (.val (.int (b))), some (.val (.int (W))), some (.val (.int (z))), some (.val (.int (B))), some (.val (.int (l))), some (.val (.int (h))), some (.val (.int (s))), some (.val (.int (r))), some (.val (.int P)), some (.val (.int bg)), some (.val (.int m)), some (.val (.int lf)), some (.val (.lst [.tup [.int l, .int bg, .int 1], .tup [.int bg, .int (bg + P), .int m], .tup [.int bg, .int (bg + lf), .int 1]])), none, none, none, none, none, none, none], []⟩ := asg_at (s1 := ⟨[some (.val (gt l h s r)), some (.val (.int (a))), some (.val (.int (b))), some (.val (.int (W))), some (.val (.int (z))), some (.val (.int (B))), some (.val (.int (l))), some (.val (.int (h))), some (.val (.int (s))), some (.val (.int (r))), some (.val (.int P)), some (.val (.int bg)), some (.val (.int m)), some (.val (.int lf)), none, none, none, none, none, none, none, none], []⟩) (lst_at (l := [.tup [.int l, .int bg, .int 1], .tup [.int bg, .int (bg + P), .int m], .tup [.int bg, .int (bg + lf), .int 1]]) (acons_at (tup_at (l := [.int l, .int bg, .int 1]) rfl (by show (3 : Nat) ≤ 16777216; decide)) (acons_at (tup_at (l := [.int bg, .int (bg + P), .int m]) rfl (by show (3 : Nat) ≤ 16777216; decide)) (acons_at (tup_at (l := [.int bg, .int (bg + lf), .int 1]) rfl (by show (3 : Nat) ≤ 16777216; decide)) rfl))) (by show (3 : Nat) ≤ 16777216; decide)) rfl
  have t6 : q__law_far_6 ⟨[some (.val (gt l h s r)), some (.val (.int (a))), some (.val (.int (b))), some (.val (.int (W))), some (.val (.int (z))), some (.val (.int (B))), some (.val (.int (l))), some (.val (.int (h))), some (.val (.int (s))), some (.val (.int (r))), some (.val (.int P)), some (.val (.int bg)), some (.val (.int m)), some (.val (.int lf)), some (.val (.lst [.tup [.int l, .int bg, .int 1], .tup [.int bg, .int (bg + P), .int m], .tup [.int bg, .int (bg + lf), .int 1]])), none, none, none, none, none, none, none], []⟩ = .nx ⟨[some (.val (gt l h s r)), some (.val (.int (a))), some (.val (.int (b))), some (.val (.int (W))), some (.val (.int (z))), some (.val (.int (B))), some (.val (.int (l))), some (.val (.int (h))), some (.val (.int (s))), some (.val (.int (r))), some (.val (.int P)), some (.val (.int bg)), some (.val (.int m)), some (.val (.int lf)), some (.val (.lst [.tup [.int l, .int bg, .int 1], .tup [.int bg, .int (bg + P), .int m], .tup [.int bg, .int (bg + lf), .int 1]])), some (.val (.lst [.int 0, .int 0, .int 0, .int 0])), none, none, none, none, none, none], []⟩ := asg_at (s1 := ⟨[some (.val (gt l h s r)), some (.val (.int (a))), some (.val (.int (b))), some (.val (.int (W))), some (.val (.int (z))), some (.val (.int (B))), some (.val (.int (l))), some (.val (.int (h))), some (.val (.int (s))), some (.val (.int (r))), some (.val (.int P)), some (.val (.int bg)), some (.val (.int m)), some (.val (.int lf)), some (.val (.lst [.tup [.int l, .int bg, .int 1], .tup [.int bg, .int (bg + P), .int m], .tup [.int bg, .int (bg + lf), .int 1]])), none, none, none, none, none, none, none], []⟩) (lst_at (l := [.int 0, .int 0, .int 0, .int 0]) rfl (by show (4 : Nat) ≤ 16777216; decide)) rfl
  have t7 : q__law_far_7 ⟨[some (.val (gt l h s r)), some (.val (.int (a))), some (.val (.int (b))), some (.val (.int (W))), some (.val (.int (z))), some (.val (.int (B))), some (.val (.int (l))), some (.val (.int (h))), some (.val (.int (s))), some (.val (.int (r))), some (.val (.int P)), some (.val (.int bg)), some (.val (.int m)), some (.val (.int lf)), some (.val (.lst [.tup [.int l, .int bg, .int 1], .tup [.int bg, .int (bg + P), .int m], .tup [.int bg, .int (bg + lf), .int 1]])), some (.val (.lst [.int 0, .int 0, .int 0, .int 0])), none, none, none, none, none, none], []⟩ = .nx ⟨[some (.val (gt l h s r)), some (.val (.int (a))), some (.val (.int (b))), some (.val (.int (W))), some (.val (.int (z))), some (.val (.int (B))), some (.val (.int (l))), some (.val (.int (h))), some (.val (.int (s))), some (.val (.int (r))), some (.val (.int P)), some (.val (.int bg)), some (.val (.int m)), some (.val (.int lf)), some (.val (.lst [.tup [.int l, .int bg, .int 1], .tup [.int bg, .int (bg + P), .int m], .tup [.int bg, .int (bg + lf), .int 1]])), some (.val (.lst [.int (((0 + 1 * cI 0 A) + m * cI 0 M) + 1 * cI 0 Z), .int (((0 + 1 * cI 1 A) + m * cI 1 M) + 1 * cI 1 Z), .int (((0 + 1 * cI 2 A) + m * cI 2 M) + 1 * cI 2 Z), .int (mx2 (mx2 (mx2 0 (cI 3 A)) (cI 3 M)) (cI 3 Z))])), some (.val (.int (bg))), some (.val (.int (bg + lf))), some (.val (.int (1))), some (.val (.lst [.int (cI 0 (Z)), .int (cI 1 (Z)), .int (cI 2 (Z)), .int (cI 3 (Z))])), some (.val (gt bg (bg + lf) s r)), none], []⟩ := by
    refine (for_atZ (l := [.tup [.int l, .int bg, .int 1], .tup [.int bg, .int (bg + P), .int m], .tup [.int bg, .int (bg + lf), .int 1]]) (s1 := ⟨[some (.val (gt l h s r)), some (.val (.int (a))), some (.val (.int (b))), some (.val (.int (W))), some (.val (.int (z))), some (.val (.int (B))), some (.val (.int (l))), some (.val (.int (h))), some (.val (.int (s))), some (.val (.int (r))), some (.val (.int P)), some (.val (.int bg)), some (.val (.int m)), some (.val (.int lf)), some (.val (.lst [.tup [.int l, .int bg, .int 1], .tup [.int bg, .int (bg + P), .int m], .tup [.int bg, .int (bg + lf), .int 1]])), some (.val (.lst [.int 0, .int 0, .int 0, .int 0])), none, none, none, none, none, none], []⟩) rfl).trans ?_
    rw [forL_cons _ _ _ _ _ _ (show l__law_far_1b (.tup [.int l, .int bg, .int 1]) ⟨[some (.val (gt l h s r)), some (.val (.int (a))), some (.val (.int (b))), some (.val (.int (W))), some (.val (.int (z))), some (.val (.int (B))), some (.val (.int (l))), some (.val (.int (h))), some (.val (.int (s))), some (.val (.int (r))), some (.val (.int P)), some (.val (.int bg)), some (.val (.int m)), some (.val (.int lf)), some (.val (.lst [.tup [.int l, .int bg, .int 1], .tup [.int bg, .int (bg + P), .int m], .tup [.int bg, .int (bg + lf), .int 1]])), some (.val (.lst [.int 0, .int 0, .int 0, .int 0])), none, none, none, none, none, none], []⟩ = some ⟨[some (.val (gt l h s r)), some (.val (.int (a))), some (.val (.int (b))), some (.val (.int (W))), some (.val (.int (z))), some (.val (.int (B))), some (.val (.int (l))), some (.val (.int (h))), some (.val (.int (s))), some (.val (.int (r))), some (.val (.int P)), some (.val (.int bg)), some (.val (.int m)), some (.val (.int lf)), some (.val (.lst [.tup [.int l, .int bg, .int 1], .tup [.int bg, .int (bg + P), .int m], .tup [.int bg, .int (bg + lf), .int 1]])), some (.val (.lst [.int 0, .int 0, .int 0, .int 0])), some (.val (.int (l))), some (.val (.int (bg))), some (.val (.int (1))), none, none, none], []⟩ from rfl), f1]
    show forL _ _ _ ⟨[some (.val (gt l h s r)), some (.val (.int (a))), some (.val (.int (b))), some (.val (.int (W))), some (.val (.int (z))), some (.val (.int (B))), some (.val (.int (l))), some (.val (.int (h))), some (.val (.int (s))), some (.val (.int (r))), some (.val (.int P)), some (.val (.int bg)), some (.val (.int m)), some (.val (.int lf)), some (.val (.lst [.tup [.int l, .int bg, .int 1], .tup [.int bg, .int (bg + P), .int m], .tup [.int bg, .int (bg + lf), .int 1]])), some (.val (.lst [.int (0 + 1 * cI 0 A), .int (0 + 1 * cI 1 A), .int (0 + 1 * cI 2 A), .int (mx2 0 (cI 3 A))])), some (.val (.int (l))), some (.val (.int (bg))), some (.val (.int (1))), some (.val (.lst [.int (cI 0 (A)), .int (cI 1 (A)), .int (cI 2 (A)), .int (cI 3 (A))])), some (.val (gt l bg s r)), none], []⟩ = _
    rw [forL_cons _ _ _ _ _ _ (show l__law_far_1b (.tup [.int bg, .int (bg + P), .int m]) ⟨[some (.val (gt l h s r)), some (.val (.int (a))), some (.val (.int (b))), some (.val (.int (W))), some (.val (.int (z))), some (.val (.int (B))), some (.val (.int (l))), some (.val (.int (h))), some (.val (.int (s))), some (.val (.int (r))), some (.val (.int P)), some (.val (.int bg)), some (.val (.int m)), some (.val (.int lf)), some (.val (.lst [.tup [.int l, .int bg, .int 1], .tup [.int bg, .int (bg + P), .int m], .tup [.int bg, .int (bg + lf), .int 1]])), some (.val (.lst [.int (0 + 1 * cI 0 A), .int (0 + 1 * cI 1 A), .int (0 + 1 * cI 2 A), .int (mx2 0 (cI 3 A))])), some (.val (.int (l))), some (.val (.int (bg))), some (.val (.int (1))), some (.val (.lst [.int (cI 0 (A)), .int (cI 1 (A)), .int (cI 2 (A)), .int (cI 3 (A))])), some (.val (gt l bg s r)), none], []⟩ = some ⟨[some (.val (gt l h s r)), some (.val (.int (a))), some (.val (.int (b))), some (.val (.int (W))), some (.val (.int (z))), some (.val (.int (B))), some (.val (.int (l))), some (.val (.int (h))), some (.val (.int (s))), some (.val (.int (r))), some (.val (.int P)), some (.val (.int bg)), some (.val (.int m)), some (.val (.int lf)), some (.val (.lst [.tup [.int l, .int bg, .int 1], .tup [.int bg, .int (bg + P), .int m], .tup [.int bg, .int (bg + lf), .int 1]])), some (.val (.lst [.int (0 + 1 * cI 0 A), .int (0 + 1 * cI 1 A), .int (0 + 1 * cI 2 A), .int (mx2 0 (cI 3 A))])), some (.val (.int (bg))), some (.val (.int (bg + P))), some (.val (.int (m))), some (.val (.lst [.int (cI 0 (A)), .int (cI 1 (A)), .int (cI 2 (A)), .int (cI 3 (A))])), some (.val (gt l bg s r)), none], []⟩ from rfl), f2]
    show forL _ _ _ ⟨[some (.val (gt l h s r)), some (.val (.int (a))), some (.val (.int (b))), some (.val (.int (W))), some (.val (.int (z))), some (.val (.int (B))), some (.val (.int (l))), some (.val (.int (h))), some (.val (.int (s))), some (.val (.int (r))), some (.val (.int P)), some (.val (.int bg)), some (.val (.int m)), some (.val (.int lf)), some (.val (.lst [.tup [.int l, .int bg, .int 1], .tup [.int bg, .int (bg + P), .int m], .tup [.int bg, .int (bg + lf), .int 1]])), some (.val (.lst [.int ((0 + 1 * cI 0 A) + m * cI 0 M), .int ((0 + 1 * cI 1 A) + m * cI 1 M), .int ((0 + 1 * cI 2 A) + m * cI 2 M), .int (mx2 (mx2 0 (cI 3 A)) (cI 3 M))])), some (.val (.int (bg))), some (.val (.int (bg + P))), some (.val (.int (m))), some (.val (.lst [.int (cI 0 (M)), .int (cI 1 (M)), .int (cI 2 (M)), .int (cI 3 (M))])), some (.val (gt bg (bg + P) s r)), none], []⟩ = _
    rw [forL_cons _ _ _ _ _ _ (show l__law_far_1b (.tup [.int bg, .int (bg + lf), .int 1]) ⟨[some (.val (gt l h s r)), some (.val (.int (a))), some (.val (.int (b))), some (.val (.int (W))), some (.val (.int (z))), some (.val (.int (B))), some (.val (.int (l))), some (.val (.int (h))), some (.val (.int (s))), some (.val (.int (r))), some (.val (.int P)), some (.val (.int bg)), some (.val (.int m)), some (.val (.int lf)), some (.val (.lst [.tup [.int l, .int bg, .int 1], .tup [.int bg, .int (bg + P), .int m], .tup [.int bg, .int (bg + lf), .int 1]])), some (.val (.lst [.int ((0 + 1 * cI 0 A) + m * cI 0 M), .int ((0 + 1 * cI 1 A) + m * cI 1 M), .int ((0 + 1 * cI 2 A) + m * cI 2 M), .int (mx2 (mx2 0 (cI 3 A)) (cI 3 M))])), some (.val (.int (bg))), some (.val (.int (bg + P))), some (.val (.int (m))), some (.val (.lst [.int (cI 0 (M)), .int (cI 1 (M)), .int (cI 2 (M)), .int (cI 3 (M))])), some (.val (gt bg (bg + P) s r)), none], []⟩ = some ⟨[some (.val (gt l h s r)), some (.val (.int (a))), some (.val (.int (b))), some (.val (.int (W))), some (.val (.int (z))), some (.val (.int (B))), some (.val (.int (l))), some (.val (.int (h))), some (.val (.int (s))), some (.val (.int (r))), some (.val (.int P)), some (.val (.int bg)), some (.val (.int m)), some (.val (.int lf)), some (.val (.lst [.tup [.int l, .int bg, .int 1], .tup [.int bg, .int (bg + P), .int m], .tup [.int bg, .int (bg + lf), .int 1]])), some (.val (.lst [.int ((0 + 1 * cI 0 A) + m * cI 0 M), .int ((0 + 1 * cI 1 A) + m * cI 1 M), .int ((0 + 1 * cI 2 A) + m * cI 2 M), .int (mx2 (mx2 0 (cI 3 A)) (cI 3 M))])), some (.val (.int (bg))), some (.val (.int (bg + lf))), some (.val (.int (1))), some (.val (.lst [.int (cI 0 (M)), .int (cI 1 (M)), .int (cI 2 (M)), .int (cI 3 (M))])), some (.val (gt bg (bg + P) s r)), none], []⟩ from rfl), f3]
    rfl
  have t8 : q__law_far_8 ⟨[some (.val (gt l h s r)), some (.val (.int (a))), some (.val (.int (b))), some (.val (.int (W))), some (.val (.int (z))), some (.val (.int (B))), some (.val (.int (l))), some (.val (.int (h))), some (.val (.int (s))), some (.val (.int (r))), some (.val (.int P)), some (.val (.int bg)), some (.val (.int m)), some (.val (.int lf)), some (.val (.lst [.tup [.int l, .int bg, .int 1], .tup [.int bg, .int (bg + P), .int m], .tup [.int bg, .int (bg + lf), .int 1]])), some (.val (.lst [.int (((0 + 1 * cI 0 A) + m * cI 0 M) + 1 * cI 0 Z), .int (((0 + 1 * cI 1 A) + m * cI 1 M) + 1 * cI 1 Z), .int (((0 + 1 * cI 2 A) + m * cI 2 M) + 1 * cI 2 Z), .int (mx2 (mx2 (mx2 0 (cI 3 A)) (cI 3 M)) (cI 3 Z))])), some (.val (.int (bg))), some (.val (.int (bg + lf))), some (.val (.int (1))), some (.val (.lst [.int (cI 0 (Z)), .int (cI 1 (Z)), .int (cI 2 (Z)), .int (cI 3 (Z))])), some (.val (gt bg (bg + lf) s r)), none], []⟩ = .rt (.lst [.int (((0 + 1 * cI 0 A) + m * cI 0 M) + 1 * cI 0 Z), .int (((0 + 1 * cI 1 A) + m * cI 1 M) + 1 * cI 1 Z), .int (((0 + 1 * cI 2 A) + m * cI 2 M) + 1 * cI 2 Z), .int (mx2 (mx2 (mx2 0 (cI 3 A)) (cI 3 M)) (cI 3 Z))]) ⟨[some (.val (gt l h s r)), some (.val (.int (a))), some (.val (.int (b))), some (.val (.int (W))), some (.val (.int (z))), some (.val (.int (B))), some (.val (.int (l))), some (.val (.int (h))), some (.val (.int (s))), some (.val (.int (r))), some (.val (.int P)), some (.val (.int bg)), some (.val (.int m)), some (.val (.int lf)), some (.val (.lst [.tup [.int l, .int bg, .int 1], .tup [.int bg, .int (bg + P), .int m], .tup [.int bg, .int (bg + lf), .int 1]])), some (.val (.lst [.int (((0 + 1 * cI 0 A) + m * cI 0 M) + 1 * cI 0 Z), .int (((0 + 1 * cI 1 A) + m * cI 1 M) + 1 * cI 1 Z), .int (((0 + 1 * cI 2 A) + m * cI 2 M) + 1 * cI 2 Z), .int (mx2 (mx2 (mx2 0 (cI 3 A)) (cI 3 M)) (cI 3 Z))])), some (.val (.int (bg))), some (.val (.int (bg + lf))), some (.val (.int (1))), some (.val (.lst [.int (cI 0 (Z)), .int (cI 1 (Z)), .int (cI 2 (Z)), .int (cI 3 (Z))])), some (.val (gt bg (bg + lf) s r)), none], []⟩ := rfl
  rw [fv]
  unfold m__law_far
  rw [g__law_far_eq]
  simp only [mOf, start0, List.map_cons, List.map_nil, List.length_cons, List.length_nil, Nat.reduceAdd, Nat.reduceSub, List.replicate, List.cons_append, List.nil_append]
  rw [seq_nx t1, seq_nx t2, seq_nx t3, seq_nx t4, seq_nx t5, seq_nx t6, seq_nx t7, seq_rt t8]
  rfl
end K46
/-! K46_R: one question. -/
namespace K46
open PySem PySem.Spec PyProof.Rows L2 PL PN PM
noncomputable def q__law_told_1 : Stt → Fl := (gAsg (eMake "Kernel" PM.m_Kernel___init__ 4 [.tup []] (aCons (eVar 0) (aCons (frz (oLst (aCons (eTup (aCons (eC (.str "put")) (aCons (eVar 1) (aCons (eC (.str "x")) (aCons (eVar 2) (aCons (eVar 3) (aCons (eC (.int 0)) (aCons (eC (.int 0)) aNil)))))))) aNil))) aNil))) (aName 6))
noncomputable def q__law_told_2 : Stt → Fl := (gRet (frz (oLst (aCons (eCall m_total_degree (avN 4 (lPv (eVar 6) (lPv (eC (.int 0)) (lPv (eVar 4) (lPv (eVar 5) lNil)))))) (aCons (eCall m_greatest_degree (avN 4 (lPv (eVar 6) (lPv (eC (.int 0)) (lPv (eVar 4) (lPv (eVar 5) lNil)))))) aNil)))))
theorem g__law_told_eq : g__law_told = (gSeq q__law_told_1 (gSeq q__law_told_2 gNop)) := rfl
noncomputable def q__law_right_1 : Stt → Fl := (gAsg (eCall m__law_far_guard (avN 1 (lSl 0 lNil))) (aTup 2 (asCons (aName 1) (asCons (aName 2) asNil))))
noncomputable def q__law_right_2 : Stt → Fl := (gAsg (eCall m__law_pair (avN 2 (lSl 0 (lPv (eC (.int 40)) lNil)))) (aTup 2 (asCons (aName 3) (asCons (aName 4) asNil))))
noncomputable def q__law_right_3 : Stt → Fl := (gAsg (eBin pIx (frz (oLst (aCons (eBin pAdd (eC (.int 1)) (eCall PM.m__law_draw_2 (avN 2 (lSl 0 (lPv (eC (.int 8)) lNil))))) (aCons (eC (.int 16)) (aCons (eC (.int 32)) (aCons (eBin pAdd (eC (.int 1)) (eCall PM.m__law_draw_2 (avN 2 (lSl 0 (lPv (eC (.int 32)) lNil))))) aNil)))))) (eCall PM.m__law_draw_2 (avN 2 (lSl 0 (lPv (eC (.int 4)) lNil))))) (aName 5))
noncomputable def q__law_right_4 : Stt → Fl := (gAsg (eBin pAdd (eC (.int 1)) (eCall PM.m__law_draw_2 (avN 2 (lSl 0 (lPv (eBin pIx (frz (oLst (aCons (eC (.int 12)) (aCons (eC (.int 40)) aNil)))) (eCall PM.m__law_draw_2 (avN 2 (lSl 0 (lPv (eC (.int 2)) lNil))))) lNil))))) (aName 6))
noncomputable def q__law_right_5 : Stt → Fl := (gAsg (eSl (eCall m__law_far (avN 6 (lPv (eVar 1) (lPv (eVar 3) (lPv (eVar 4) (lPv (eVar 5) (lPv (eC (.int 1)) (lPv (eVar 6) lNil)))))))) (pSo (eC (.int 2))) pNo) (aName 7))
noncomputable def q__law_right_6 : Stt → Fl := (gIf (tOf (eBin pNe (eCall m__law_told (avN 6 (lPv (eVar 2) (lPv (eVar 1) (lPv (eVar 3) (lPv (eVar 4) (lPv (eVar 5) (lPv (eVar 6) lNil)))))))) (eVar 7))) (gSeq (gRet (eC (.bl false))) gNop) gNop)
noncomputable def q__law_right_7 : Stt → Fl := (gIf (tOf (eBin pNe (eCall m__law_told (avN 6 (lPv (eVar 2) (lPv (eVar 1) (lPv (eVar 3) (lPv (eBin pSub (eCall PM.m__law_draw_2 (avN 2 (lSl 0 (lPv (eBin pPow (eC (.int 10)) (eC (.int 20))) lNil)))) (eBin pPow (eC (.int 10)) (eC (.int 19)))) (lPv (eVar 5) (lPv (eVar 6) lNil)))))))) (eVar 7))) (gSeq (gRet (eC (.bl false))) gNop) gNop)
noncomputable def q__law_right_8 : Stt → Fl := (gAsg (eBin pAdd (eVar 3) (eBin pMul (eVar 6) (eBin pAdd (eC (.int 1)) (eCall PM.m__law_draw_2 (avN 2 (lSl 0 (lPv (eBin pPow (eC (.int 10)) (eC (.int 20))) lNil))))))) (aName 8))
noncomputable def q__law_right_9 : Stt → Fl := (gRet (eOr (eBin pEq (eVar 3) (eC (.int 0))) (eOr (eBin pEq (eVar 8) (eC (.int 0))) (eBin pEq (eCall m__law_told (avN 6 (lPv (eVar 2) (lPv (eVar 1) (lPv (eVar 8) (lPv (eVar 4) (lPv (eVar 5) (lPv (eVar 6) lNil)))))))) (eVar 7)))))
theorem g__law_right_eq : g__law_right = (gSeq q__law_right_1 (gSeq q__law_right_2 (gSeq q__law_right_3 (gSeq q__law_right_4 (gSeq q__law_right_5 (gSeq q__law_right_6 (gSeq q__law_right_7 (gSeq q__law_right_8 (gSeq q__law_right_9 gNop))))))))) := rfl
noncomputable def l_law_1b : PV → Stt → Option Stt := (aName 1)
noncomputable def l_law_2b : PV → Stt → Option Stt := (aName 3)
noncomputable def l_law_2c_s1 : Stt → Fl := (gIf (tNt (tTru (eCall m__law_right (avN 1 (lSl 2 lNil))))) (gSeq (gRet (eC (.bl false))) gNop) gNop)
noncomputable def l_law_2c : Stt → Fl := (gSeq l_law_2c_s1 gNop)
noncomputable def l_law_1c_s1 : Stt → Fl := (gAsgO 2 (oCall PM.m__law_pool (avN 2 (lPv (eVar 0) (lPv (eVar 1) lNil)))))
noncomputable def l_law_1c_s2 : Stt → Fl := (gFor (iRangeW1 (aCons (eC (.int 4)) aNil)) l_law_2b l_law_2c)
noncomputable def l_law_1c : Stt → Fl := (gSeq l_law_1c_s1 (gSeq l_law_1c_s2 gNop))
noncomputable def q_law_1 : Stt → Fl := (gFor (iRangeW1 (aCons (eCallB pMax2 (aCons (eC (.int 1)) (aCons (eCallB pMin2 (aCons (eC (.int 6)) (aCons (eCallB pLen (aCons (eVar 0) aNil)) aNil))) aNil))) aNil)) l_law_1b l_law_1c)
noncomputable def q_law_2 : Stt → Fl := (gAsg (eBin pPow (eC (.int 10)) (eC (.int 30))) (aName 4))
noncomputable def q_law_3 : Stt → Fl := (gRet (eBin pEq (eCall m__law_told (avN 6 (lPv (eVar 4) (lPv (eTup (aCons (eC (.int 0)) (aCons (eVar 4) (aCons (eC (.int 1)) (aCons (eC (.int 0)) aNil))))) (lPv (eC (.int 4)) (lPv (eC (.int 0)) (lPv (eC (.int 32)) (lPv (eC (.int 8)) lNil)))))))) (frz (oLst (aCons (eBin pFdiv (eVar 4) (eC (.int 2))) (aCons (eC (.int 16)) aNil))))))
theorem g_law_eq : g_law = (gSeq q_law_1 (gSeq q_law_2 (gSeq q_law_3 gNop))) := rfl
structure Fg (n l h s r : Int) : Prop where
  n1 : 1 ≤ n
  nb : n ≤ 1000000000000000000000000000000
  l0 : 0 ≤ l
  lh : l ≤ h
  hn : h ≤ n
  r0 : 0 ≤ r
  r1 : r < s
  sb : s ≤ 31
theorem Fg.gs {n l h s r : Int} (g : Fg n l h s r) : Gs l h s r := by
  have k : (1000000000000000000000000000000 : Int) < 2 ^ 200 := by decide +kernel
  have := g.nb; have := g.hn; have := g.sb
  exact ⟨g.l0, g.lh, by omega, g.r0, g.r1, by omega⟩
theorem nm_x : Nm "x" := ⟨arr_x, by decide +kernel⟩
theorem powE (k : Int) {v : Int} (h : okPow 10 k = true) (e : (10 : Int) ^ k.toNat = v) : pPow (.int 10) (.int k) = some (.int v) := by
  show (if okPow 10 k = true then some (PV.int (10 ^ k.toNat)) else none) = _
  rw [if_pos h, e]
theorem pow_at {st : Stt} (k : Int) {v : Int} (h : okPow 10 k = true) (e : (10 : Int) ^ k.toNat = v) : eBin pPow (eC (.int 10)) (eC (.int k)) st = .ok (.int v) st := bin_at (p := .int 10) (q := .int k) rfl rfl (powE k h e)
section
variable {mm : List SV → List MO → FRes} {f f2 : Stt → Res PV} {r : List (Option SV)} {m m' : MO} {p q v : PV}
theorem callP0 (e : mm [.bor 0] [m] = .ok v [m']) : eCall mm (avN 1 (lSl 0 lNil)) ⟨some (.bor 0) :: r, [m]⟩ = .ok v ⟨some (.bor 0) :: r, [m']⟩ := by
  show (match mm [.bor 0] [m] with | .ok v ms' => Res.ok v (setAll ⟨some (.bor 0) :: r, [m]⟩ [.inr 0] ms') | .own (.lst l) ms' => .ok (.lst l) (setAll ⟨some (.bor 0) :: r, [m]⟩ [.inr 0] ms') | .own _ _ => .stuck | .ex c v ms' => .ex c v (setAll ⟨some (.bor 0) :: r, [m]⟩ [.inr 0] ms') | .stuck => .stuck) = _
  rw [e]
  rfl
theorem callP1 (hf : f ⟨some (.bor 0) :: r, [m]⟩ = .ok p ⟨some (.bor 0) :: r, [m]⟩) (e : mm [.bor 0, .val p] [m] = .ok v [m']) : eCall mm (avN 2 (lSl 0 (lPv f lNil))) ⟨some (.bor 0) :: r, [m]⟩ = .ok v ⟨some (.bor 0) :: r, [m']⟩ := by
  have h : (avN 2 (lSl 0 (lPv f lNil))) ⟨some (.bor 0) :: r, [m]⟩ = .ok [.sl 0, .pv p] ⟨some (.bor 0) :: r, [m]⟩ := by
    simp only [avN, lSl, lPv, lNil, List.getElem?_cons_zero, hf, Res.bind_ok, List.length_cons, List.length_nil, Nat.reduceAdd, if_true]
  unfold eCall
  rw [h]
  show (match mm [.bor 0, .val p] [m] with | .ok v ms' => Res.ok v (setAll ⟨some (.bor 0) :: r, [m]⟩ [.inr 0] ms') | .own (.lst l) ms' => .ok (.lst l) (setAll ⟨some (.bor 0) :: r, [m]⟩ [.inr 0] ms') | .own _ _ => .stuck | .ex c v ms' => .ex c v (setAll ⟨some (.bor 0) :: r, [m]⟩ [.inr 0] ms') | .stuck => .stuck) = _
  rw [e]
  rfl
end
theorem e_dr {k : Nat} {m : MO} (hp : Pool k m) (hk : k < 2 ^ 50) (c : Int) (h0 : 0 < c) (hc : c ≤ 10000000000000000000000000000000) : ∃ d m', PM.m__law_draw_2 [.bor 0, .val (.int c)] [m] = .ok (.int d) [m'] ∧ 0 ≤ d ∧ d < c ∧ Pool (k + 1) m' :=
  e_pdraw hp (by omega) c h0 (Nat.lt_of_le_of_lt (m := 10000000000000000000000000000000) (by omega) (by decide +kernel))
theorem e_far_guard {k : Nat} {m : MO} (hp : Pool k m) (hk : k < 2 ^ 40) : ∃ n l h s r m', m__law_far_guard [.bor 0] [m] = .ok (.tup [gt l h s r, .int n]) [m'] ∧ Fg n l h s r ∧ Pool (k + 12) m' := by
  obtain ⟨d1, m1, e1, a1, z1, p1⟩ := e_dr hp (by omega) 5 (by decide) (by decide)
  obtain ⟨gr, hgr, i1⟩ := atI_mem [1000000000, 1000000000000, 100000000000000000, 1000000000000000000000000, 1000000000000000000000000000000] d1 a1 (by simpa using z1)
  have gb : 1000000000 ≤ gr ∧ gr ≤ 1000000000000000000000000000000 := by simp at hgr; omega
  simp only [List.map_cons, List.map_nil] at i1
  have t1 : q__law_far_guard_1 ⟨[some (.bor 0), none, none, none, none, none], [m]⟩ = .nx ⟨[some (.bor 0), some (.val (.int gr)), none, none, none, none], [m1]⟩ := asg_at (s1 := ⟨[some (.bor 0), none, none, none, none, none], [m1]⟩) (bin_at2 (s1 := ⟨[some (.bor 0), none, none, none, none, none], [m]⟩) (PM.lst_at (acons_at (pow_at 9 (by decide +kernel) (by decide +kernel)) (acons_at (pow_at 12 (by decide +kernel) (by decide +kernel)) (acons_at (pow_at 17 (by decide +kernel) (by decide +kernel)) (acons_at (pow_at 24 (by decide +kernel) (by decide +kernel)) (acons_at (pow_at 30 (by decide +kernel) (by decide +kernel)) rfl))))) (by show (5 : Nat) ≤ 16777216; decide)) (callP1 rfl e1) i1) rfl
  obtain ⟨d2, m2, e2, a2, z2, p2⟩ := e_dr p1 (by omega) 1000000 (by decide) (by decide)
  obtain ⟨n, hn⟩ : ∃ n, n = gr - d2 := ⟨_, rfl⟩
  have t2 : q__law_far_guard_2 ⟨[some (.bor 0), some (.val (.int gr)), none, none, none, none], [m1]⟩ = .nx ⟨[some (.bor 0), some (.val (.int gr)), some (.val (.int n)), none, none, none], [m2]⟩ := asg_at (s1 := ⟨[some (.bor 0), some (.val (.int gr)), none, none, none, none], [m2]⟩) (bin_at2 (p := .int gr) (q := .int d2) rfl (callP1 (pow_at 6 (by decide +kernel) (by decide +kernel)) e2) (by rw [hn]; rfl)) rfl
  obtain ⟨d3, m3, e3, a3, z3, p3⟩ := e_dr p2 (by omega) 100 (by decide) (by decide)
  obtain ⟨d4, m4, e4, a4, z4, p4⟩ := e_dr p3 (by omega) n (by omega) (by omega)
  obtain ⟨d5, m5, e5, a5, z5, p5⟩ := e_dr p4 (by omega) 3 (by decide) (by decide)
  obtain ⟨l, hl, i3⟩ := atI_mem [0, d3, d4] d5 a5 (by simpa using z5)
  have lb : 0 ≤ l ∧ l ≤ n := by simp at hl; omega
  simp only [List.map_cons, List.map_nil] at i3
  have t3 : q__law_far_guard_3 ⟨[some (.bor 0), some (.val (.int gr)), some (.val (.int n)), none, none, none], [m2]⟩ = .nx ⟨[some (.bor 0), some (.val (.int gr)), some (.val (.int n)), some (.val (.int l)), none, none], [m5]⟩ := asg_at (s1 := ⟨[some (.bor 0), some (.val (.int gr)), some (.val (.int n)), none, none, none], [m5]⟩) (bin_at2 (s1 := ⟨[some (.bor 0), some (.val (.int gr)), some (.val (.int n)), none, none, none], [m4]⟩) (PM.lst_at (acons_at (s1 := ⟨[some (.bor 0), some (.val (.int gr)), some (.val (.int n)), none, none, none], [m2]⟩) rfl (acons_at (callP1 rfl e3) (acons_at (callP1 rfl e4) rfl))) (by show (3 : Nat) ≤ 16777216; decide)) (callP1 rfl e5) i3) rfl
  obtain ⟨d6, m6, e6, a6, z6, p6⟩ := e_dr p5 (by omega) (n - l + 1) (by omega) (by omega)
  obtain ⟨d7, m7, e7, a7, z7, p7⟩ := e_dr p6 (by omega) 2 (by decide) (by decide)
  obtain ⟨h, hh, i4⟩ := atI_mem [n, l + d6] d7 a7 (by simpa using z7)
  have hb : l ≤ h ∧ h ≤ n := by simp at hh; omega
  simp only [List.map_cons, List.map_nil] at i4
  have t4 : q__law_far_guard_4 ⟨[some (.bor 0), some (.val (.int gr)), some (.val (.int n)), some (.val (.int l)), none, none], [m5]⟩ = .nx ⟨[some (.bor 0), some (.val (.int gr)), some (.val (.int n)), some (.val (.int l)), some (.val (.int h)), none], [m7]⟩ := asg_at (s1 := ⟨[some (.bor 0), some (.val (.int gr)), some (.val (.int n)), some (.val (.int l)), none, none], [m7]⟩) (bin_at2 (s1 := ⟨[some (.bor 0), some (.val (.int gr)), some (.val (.int n)), some (.val (.int l)), none, none], [m6]⟩) (PM.lst_at (acons_at (s1 := ⟨[some (.bor 0), some (.val (.int gr)), some (.val (.int n)), some (.val (.int l)), none, none], [m5]⟩) rfl (acons_at (bin_at2 (p := .int l) (q := .int d6) rfl (callP1 (bin_at (p := .int (n - l)) (q := .int 1) (bin_at (p := .int n) (q := .int l) rfl rfl rfl) rfl rfl) e6) rfl) rfl)) (by show (2 : Nat) ≤ 16777216; decide)) (callP1 rfl e7) i4) rfl
  obtain ⟨d8, m8, e8, a8, z8, p8⟩ := e_dr p7 (by omega) 24 (by decide) (by decide)
  obtain ⟨d9, m9, e9, a9, z9, p9⟩ := e_dr p8 (by omega) 7 (by decide) (by decide)
  obtain ⟨s, hs, i5⟩ := atI_mem [1, 1, 2, 3, 5, 7, 8 + d8] d9 a9 (by simpa using z9)
  have sb : 1 ≤ s ∧ s ≤ 31 := by simp at hs; omega
  simp only [List.map_cons, List.map_nil] at i5
  have t5 : q__law_far_guard_5 ⟨[some (.bor 0), some (.val (.int gr)), some (.val (.int n)), some (.val (.int l)), some (.val (.int h)), none], [m7]⟩ = .nx ⟨[some (.bor 0), some (.val (.int gr)), some (.val (.int n)), some (.val (.int l)), some (.val (.int h)), some (.val (.int s))], [m9]⟩ := asg_at (s1 := ⟨[some (.bor 0), some (.val (.int gr)), some (.val (.int n)), some (.val (.int l)), some (.val (.int h)), none], [m9]⟩) (bin_at2 (s1 := ⟨[some (.bor 0), some (.val (.int gr)), some (.val (.int n)), some (.val (.int l)), some (.val (.int h)), none], [m8]⟩) (PM.lst_at (acons_at (s1 := ⟨[some (.bor 0), some (.val (.int gr)), some (.val (.int n)), some (.val (.int l)), some (.val (.int h)), none], [m7]⟩) rfl (acons_at (s1 := ⟨[some (.bor 0), some (.val (.int gr)), some (.val (.int n)), some (.val (.int l)), some (.val (.int h)), none], [m7]⟩) rfl (acons_at (s1 := ⟨[some (.bor 0), some (.val (.int gr)), some (.val (.int n)), some (.val (.int l)), some (.val (.int h)), none], [m7]⟩) rfl (acons_at (s1 := ⟨[some (.bor 0), some (.val (.int gr)), some (.val (.int n)), some (.val (.int l)), some (.val (.int h)), none], [m7]⟩) rfl (acons_at (s1 := ⟨[some (.bor 0), some (.val (.int gr)), some (.val (.int n)), some (.val (.int l)), some (.val (.int h)), none], [m7]⟩) rfl (acons_at (s1 := ⟨[some (.bor 0), some (.val (.int gr)), some (.val (.int n)), some (.val (.int l)), some (.val (.int h)), none], [m7]⟩) rfl (acons_at (bin_at2 (p := .int 8) (q := .int d8) rfl (callP1 rfl e8) rfl) rfl))))))) (by show (7 : Nat) ≤ 16777216; decide)) (callP1 rfl e9) i5) rfl
  obtain ⟨r, m10, e10, a10, z10, p10⟩ := e_dr p9 (by omega) s (by omega) (by omega)
  have t6 : q__law_far_guard_6 ⟨[some (.bor 0), some (.val (.int gr)), some (.val (.int n)), some (.val (.int l)), some (.val (.int h)), some (.val (.int s))], [m9]⟩ = .rt (.tup [gt l h s r, .int n]) ⟨[some (.bor 0), some (.val (.int gr)), some (.val (.int n)), some (.val (.int l)), some (.val (.int h)), some (.val (.int s))], [m10]⟩ := ret_at (tup_at (acons_at (tup_at (l := [.int l, .int h, .int s, .int r]) (acons_at (s1 := ⟨[some (.bor 0), some (.val (.int gr)), some (.val (.int n)), some (.val (.int l)), some (.val (.int h)), some (.val (.int s))], [m9]⟩) rfl (acons_at (s1 := ⟨[some (.bor 0), some (.val (.int gr)), some (.val (.int n)), some (.val (.int l)), some (.val (.int h)), some (.val (.int s))], [m9]⟩) rfl (acons_at (s1 := ⟨[some (.bor 0), some (.val (.int gr)), some (.val (.int n)), some (.val (.int l)), some (.val (.int h)), some (.val (.int s))], [m9]⟩) rfl (acons_at (callP1 rfl e10) rfl)))) (by show (4 : Nat) ≤ 16777216; decide)) (acons_at (s1 := ⟨[some (.bor 0), some (.val (.int gr)), some (.val (.int n)), some (.val (.int l)), some (.val (.int h)), some (.val (.int s))], [m10]⟩) rfl rfl)) (by show (2 : Nat) ≤ 16777216; decide))
  refine ⟨n, l, h, s, r, m10, ?_, ⟨by omega, by omega, lb.1, hb.1, hb.2, a10, z10, sb.2⟩, p10.mono (by omega)⟩
  unfold m__law_far_guard
  rw [g__law_far_guard_eq]
  simp only [mOf, start0, List.map_cons, List.map_nil, List.length_cons, List.length_nil, Nat.reduceAdd, Nat.reduceSub, List.replicate, List.cons_append, List.nil_append]
  rw [seq_nx t1, seq_nx t2, seq_nx t3, seq_nx t4, seq_nx t5, seq_rt t6]
  rfl
/-- a kernel of one statement -/
abbrev K1 (n : Int) (x : Stm) : PV := kern n [x.pv] []
section
variable {n : Int} {x : Stm} {u : Nat} {p : Ac}
theorem acc1 (x : Stm) : accs 0 [x] = x.ac.map (Ac.pv 0) := by
  show accOf 0 x ++ [] = _
  rw [List.append_nil, accOf_ac]
theorem list1 (n : Int) (x : Stm) : PM.m_access_list [.val (K1 n x)] [] = .ok (.lst (x.ac.map (Ac.pv 0))) [] := by
  have e := e_access_list (n := n) (xs := [x]) (bs := []) (by show (1 : Nat) ≤ 1000; decide)
  rw [acc1] at e
  exact e
theorem at1_ (hu : x.ac[u]? = some p) : atI (x.ac.map (Ac.pv 0)) (u : Int) = some (Ac.pv 0 p) := atI_at (by rw [List.getElem?_map, hu]; rfl)
theorem part1 (n : Int) (x : Stm) (p : Ac) : PM.m_part_in [.val (K1 n x), .val (Ac.pv 0 p)] [] = .ok (.tup [gt x.l x.h x.s x.r, .int p.a, .int p.b]) [] := e_part_in (n := n) (xs := [x]) (bars := []) (i := 0) (x := x) (at0 _ _) p
theorem chk1 (hu : x.ac[u]? = some p) : PM.m_check_access [.val (K1 n x), .val (.int (u : Nat))] [] = .ok .non [] := by
  have lu := (List.getElem?_eq_some_iff.mp hu).1
  have c := nt_z (tOf_z (chainLt (st := ⟨[some (.val (K1 n x)), some (.val (.int (u : Nat)))], []⟩) (i := 0) (j := (u : Nat)) (k := ((x.ac.map (Ac.pv 0)).length : Nat)) (fa := eC (.int 0)) (fb := eVar 1) (fc := eCallB pLen (aCons (eCall PM.m_access_list (avN 1 (lPv (eVar 0) lNil))) aNil)) rfl rfl (callB1_at (call1_ok rfl (list1 n x)) rfl)))
  rw [List.length_map, decide_eq_true (by omega : (0 : Int) ≤ ((u : Nat) : Int) ∧ ((u : Nat) : Int) < (x.ac.length : Nat))] at c
  unfold m_check_access g_check_access
  simp only [mOf, start0, List.map_cons, List.map_nil, List.length_cons, List.length_nil, Nat.reduceAdd, Nat.reduceSub, List.replicate, List.cons_append, List.nil_append]
  rw [oneZ (if_no c)]
  rfl
end
theorem mk1 {n : Int} {x : Stm} {q : PV} {st s1 : Stt} {fa : Stt → Res (List PV)} (n1 : 1 ≤ n) (ox : x.ok n) (hq : x.pv = q) (ha : fa st = .ok [.int n, .lst [q]] s1) : eMake "Kernel" PM.m_Kernel___init__ 4 [.tup []] fa st = .ok (K1 n x) s1 := by
  subst hq
  exact makeZ ha n1 fun p hp => by
    rw [List.mem_singleton] at hp
    rw [hp]
    exact e_is_stm ox
theorem mulI {x y : Int} (hx : x.natAbs < 2 ^ 300) (hy : y.natAbs < 2 ^ 300) : pMul (.int x) (.int y) = some (.int (x * y)) := if_pos (okMul_of (a := 300) (b := 300) hx hy (by decide) (by decide) (by decide))
theorem s3 {x : Int} (h0 : -100000000000000000000000000000000000 ≤ x) (h1 : x ≤ 100000000000000000000000000000000000) : x.natAbs < 2 ^ 300 := Nat.lt_of_le_of_lt (m := 100000000000000000000000000000000000) (by omega) (by decide +kernel)
theorem td_eq : m_total_degree = PM.m_total_degree := rfl
theorem gd_eq : m_greatest_degree = PM.m_greatest_degree := rfl
/-- what is due -/
def dueV (l h s r y W B : Int) : PV := .lst [.int (SD s r W y B l h), .int (MX s r W y B l h)]
theorem dd_due (l h s r y W B : Int) : Dd (dueV l h s r y W B) 1 := Dd.lst fun p hp => by
  rcases List.mem_cons.mp hp with rfl | hp
  · exact Dd.int _
  · rcases List.mem_cons.mp hp with rfl | hp
    · exact Dd.int _
    · cases hp
theorem e_told {n l h s r a b W B : Int} (n1 : 1 ≤ n) (g : Gs l h s r) (hn : h ≤ n) (hW : 1 ≤ W ∧ W ≤ 32) (hB : 1 ≤ B ∧ B ≤ 4096) (ab : a.natAbs < 2 ^ 300) : m__law_told [.val (.int n), .val (gt l h s r), .val (.int a), .val (.int b), .val (.int W), .val (.int B)] [] = .ok (dueV l h s r (a * s) W B) [] := by
  obtain ⟨X, hX⟩ : ∃ X : Stm, X = ⟨l, h, s, r, "x", a, b, .put 0 0⟩ := ⟨_, rfl⟩
  have z300 : Sm 0 := by show (0 : Int).natAbs < 2 ^ 300; decide +kernel
  have ox : X.ok n := by rw [hX]; exact ⟨g.l0, g.lh, hn, g.r0, g.r1, g.sb, nm_x, ab, z300⟩
  have K : AccK (K1 n X) 0 l h s r a b := by
    have hu : X.ac[0]? = some ⟨true, "x", a, b⟩ := by rw [hX]; rfl
    have p := part1 n X ⟨true, "x", a, b⟩
    have e : gt X.l X.h X.s X.r = gt l h s r := by rw [hX]
    rw [e] at p
    exact ⟨chk1 hu, _, _, list1 n X, at1_ hu, p⟩
  have B0 : 0 < B := by omega
  have e1 := e_total_degree K g hW hB ab (dgs_bd g hW B0)
  rw [tot_is g hW.1 B0] at e1
  have e2 := e_greatest_degree K g hW hB ab
  rw [(gr_is g hW B0).uniq (mx_is g.s0 (by omega) g.r0 g.r1)] at e2
  rw [← td_eq] at e1
  rw [← gd_eq] at e2
  have t1 : q__law_told_1 ⟨[some (.val (.int n)), some (.val (gt l h s r)), some (.val (.int a)), some (.val (.int b)), some (.val (.int W)), some (.val (.int B)), none], []⟩ = .nx ⟨[some (.val (.int n)), some (.val (gt l h s r)), some (.val (.int a)), some (.val (.int b)), some (.val (.int W)), some (.val (.int B)), some (.val (K1 n X))], []⟩ := asg_at (s1 := ⟨[some (.val (.int n)), some (.val (gt l h s r)), some (.val (.int a)), some (.val (.int b)), some (.val (.int W)), some (.val (.int B)), none], []⟩) (mk1 n1 ox (q := .tup [.str "put", gt l h s r, .str "x", .int a, .int b, .int 0, .int 0]) (by rw [hX]; rfl) (acons_at (s1 := ⟨[some (.val (.int n)), some (.val (gt l h s r)), some (.val (.int a)), some (.val (.int b)), some (.val (.int W)), some (.val (.int B)), none], []⟩) rfl (acons_at (PM.lst_at (l := [.tup [.str "put", gt l h s r, .str "x", .int a, .int b, .int 0, .int 0]]) (acons_at (tup_at (l := [.str "put", gt l h s r, .str "x", .int a, .int b, .int 0, .int 0]) rfl (by show (7 : Nat) ≤ 16777216; decide)) rfl) (by show (1 : Nat) ≤ 16777216; decide)) rfl))) rfl
  have t2 : q__law_told_2 ⟨[some (.val (.int n)), some (.val (gt l h s r)), some (.val (.int a)), some (.val (.int b)), some (.val (.int W)), some (.val (.int B)), some (.val (K1 n X))], []⟩ = .rt (dueV l h s r (a * s) W B) ⟨[some (.val (.int n)), some (.val (gt l h s r)), some (.val (.int a)), some (.val (.int b)), some (.val (.int W)), some (.val (.int B)), some (.val (K1 n X))], []⟩ := ret_at (PM.lst_at (acons_at (call4_ok rfl rfl rfl rfl e1) (acons_at (call4_ok rfl rfl rfl rfl e2) rfl)) (by show (2 : Nat) ≤ 16777216; decide))
  unfold m__law_told
  rw [g__law_told_eq]
  simp only [mOf, start0, List.map_cons, List.map_nil, List.length_cons, List.length_nil, Nat.reduceAdd, Nat.reduceSub, List.replicate, List.cons_append, List.nil_append]
  rw [seq_nx t1, seq_rt t2]
  rfl
theorem st4_2 {l h s r a b W z B : Int} (hs : 0 < s) (hW : 0 < W) (h0 : 0 ≤ r) (h1 : r < s) (hB : 0 < B) : cI 2 (st4 l h s r a b W z B) = SD s r W (a * s) B l h := by
  show ((wvs l h s r W).map fun x => degL (rowC l h s r W a b x) B).sum = _
  unfold SD
  congr 1
  exact List.map_congr_left fun x _ => deg_row hs hW h0 h1 hB a b x
theorem st4_3 {l h s r a b W z B : Int} (hs : 0 < s) (hW : 0 < W) (h0 : 0 ≤ r) (h1 : r < s) (hB : 0 < B) : cI 3 (st4 l h s r a b W z B) = MX s r W (a * s) B l h := by
  show maxI (0 :: (wvs l h s r W).map fun x => degL (rowC l h s r W a b x) B) = _
  unfold MX
  congr 2
  exact List.map_congr_left fun x _ => deg_row hs hW h0 h1 hB a b x
theorem far_sum {l h s r a b W z B P : Int} (g : Gs l h s r) (hW : 1 ≤ W ∧ W ≤ 32) (B0 : 0 < B) (p0 : 1 ≤ P) (pW : P % W = 0) (ps : P % s = 0) : cI 2 (farV l h s r a b W z B P) = SD s r W (a * s) B l h := by
  have s0 := g.s0
  have W0 : 0 < W := by omega
  have e := far_gen (f := fun l h => SD s r W (a * s) B l h) (l := l) (h := h) (W := W) (P := P) W0 g.l0 g.lh (by omega) pW (fun l => sd_empty s0 g.r0 g.r1 l) (fun l c h l0 hc lc ch => sd_add s0 W0 g.r0 g.r1 l c h l0 hc lc ch) (fun l h m l0 lh => by
    have dv : ∀ {z : Int}, P % z = 0 → (P * (m : Int)) % z = 0 := fun {z} h => by rw [Int.mul_emod, h, Int.zero_mul, Int.zero_emod]
    exact sd_shift s0 W0 g.r0 g.r1 l0 lh (Int.mul_nonneg (by omega) (by omega)) (dv ps) (dv pW))
  show ((0 + 1 * cI 2 (st4 l (begF l h W) s r a b W z B)) + (h - begF l h W) / P * cI 2 (if 0 < (h - begF l h W) / P then st4 (begF l h W) (begF l h W + P) s r a b W z B else [0, 0, 0, 0])) + 1 * cI 2 (st4 (begF l h W) (begF l h W + (h - begF l h W) % P) s r a b W z B) = _
  rw [← e, st4_2 s0 W0 g.r0 g.r1 B0, st4_2 s0 W0 g.r0 g.r1 B0]
  have q0 : 0 ≤ (h - begF l h W) / P := Int.ediv_nonneg (by have := (beg_ok (l := l) (h := h) (W := W) (by omega) g.lh).2.1; omega) (by omega)
  have k : (h - begF l h W) / P * cI 2 (if 0 < (h - begF l h W) / P then st4 (begF l h W) (begF l h W + P) s r a b W z B else [0, 0, 0, 0]) = (h - begF l h W) / P * SD s r W (a * s) B (begF l h W) (begF l h W + P) := by
    by_cases c : 0 < (h - begF l h W) / P
    · rw [if_pos c, st4_2 s0 W0 g.r0 g.r1 B0]
    · rw [show (h - begF l h W) / P = 0 by omega, Int.zero_mul, Int.zero_mul]
  rw [k, Int.zero_add, Int.one_mul, Int.one_mul]
theorem far_max {l h s r a b W z B P : Int} (g : Gs l h s r) (hW : 1 ≤ W ∧ W ≤ 32) (B0 : 0 < B) (p0 : 1 ≤ P) (pW : P % W = 0) (ps : P % s = 0) : cI 3 (farV l h s r a b W z B P) = MX s r W (a * s) B l h := by
  have s0 := g.s0
  have W0 : 0 < W := by omega
  have P0 : 0 < P := by omega
  obtain ⟨b1, b2, b3⟩ := beg_ok (l := l) (h := h) (W := W) W0 g.lh
  show mx2 (mx2 (mx2 0 (cI 3 (st4 l (begF l h W) s r a b W z B))) (cI 3 (if 0 < (h - begF l h W) / P then st4 (begF l h W) (begF l h W + P) s r a b W z B else [0, 0, 0, 0]))) (cI 3 (st4 (begF l h W) (begF l h W + (h - begF l h W) % P) s r a b W z B)) = _
  obtain ⟨bg, hbg⟩ : ∃ bg, bg = begF l h W := ⟨_, rfl⟩
  rw [← hbg] at b1 b2 b3 ⊢
  rw [st4_3 s0 W0 g.r0 g.r1 B0, st4_3 s0 W0 g.r0 g.r1 B0]
  have em := Int.mul_ediv_add_emod (h - bg) P
  have q0 : 0 ≤ (h - bg) / P := Int.ediv_nonneg (by omega) (by omega)
  have r0 := Int.emod_nonneg (h - bg) (show P ≠ 0 by omega)
  obtain ⟨m, hm⟩ := Int.eq_ofNat_of_zero_le q0
  obtain ⟨lf, hlf⟩ : ∃ lf, lf = (h - bg) % P := ⟨_, rfl⟩
  rw [← hlf] at em r0 ⊢
  rw [hm] at em ⊢
  have k0 : 0 ≤ P * (m : Int) := Int.mul_nonneg (by omega) (by omega)
  have dv : ∀ {z : Int}, P % z = 0 → (P * (m : Int)) % z = 0 := fun {z} h => by rw [Int.mul_emod, h, Int.zero_mul, Int.zero_emod]
  have ew := Int.mul_ediv_add_emod (P * (m : Int)) W
  rw [dv pW, Int.add_zero] at ew
  have A := mx_is (l := l) (h := bg) (y := a * s) (B := B) s0 W0 g.r0 g.r1
  have Z := max_shift (d := P * (m : Int)) (k := P * (m : Int) / W) s0 (dv ps) ew.symm (mx_is (l := bg) (h := bg + lf) (y := a * s) (B := B) s0 W0 g.r0 g.r1)
  rw [show bg + lf + P * (m : Int) = h by omega] at Z
  have zero : bg % W ≠ 0 → m = 0 := fun c => by
    rcases b3 with b3 | b3
    · exact absurd b3 c
    · have e0 : h - bg = 0 := by omega
      rw [e0, Int.zero_ediv] at hm
      omega
  have M : IsMax (DGW bg (bg + P * (m : Int)) s r W (a * s) B) (cI 3 (if 0 < (m : Int) then st4 bg (bg + P) s r a b W z B else [0, 0, 0, 0])) := by
    cases m with
    | zero =>
      rw [if_neg (by omega), show ((0 : Nat) : Int) = 0 from rfl, Int.mul_zero, Int.add_zero]
      exact max_empty s0 W0 g.r0 g.r1 bg
    | succ k =>
      rw [if_pos (by omega), st4_3 s0 W0 g.r0 g.r1 B0]
      by_cases c : bg % W = 0
      · exact max_period s0 W0 g.r0 g.r1 c P0 ps pW (mx_is s0 W0 g.r0 g.r1) k
      · exact absurd (zero c) (by omega)
  have c1 := max_cut s0 W0 g.r0 g.r1 (c := bg) (by
    by_cases c : bg % W = 0
    · exact .inl c
    · rw [zero c]
      right
      show bg = bg + P * ((0 : Nat) : Int)
      rw [show ((0 : Nat) : Int) = 0 from rfl, Int.mul_zero, Int.add_zero]) b1 (by omega) A M
  have c2 := max_cut s0 W0 g.r0 g.r1 (c := bg + P * (m : Int)) (by
    rcases b3 with b3 | b3
    · exact .inl (by rw [Int.add_emod, b3, dv pW]; simp)
    · right
      by_cases c : bg % W = 0
      · omega
      · rw [zero c] at k0 ⊢
        rw [show ((0 : Nat) : Int) = 0 from rfl, Int.mul_zero, Int.add_zero]
        exact b3) (by omega) (by omega) c1 Z
  have fin := c2.uniq (mx_is s0 W0 g.r0 g.r1)
  rw [← fin]
  have a0 := A.v0
  have e0 : mx2 0 (MX s r W (a * s) B l bg) = MX s r W (a * s) B l bg := by
    unfold mx2
    split <;> omega
  rw [e0]
  rfl
theorem callPx {mm : List SV → List MO → FRes} {f : Stt → Res PV} {r : List (Option SV)} {m m1 m' : MO} {p v : PV} (hf : f ⟨some (.bor 0) :: r, [m]⟩ = .ok p ⟨some (.bor 0) :: r, [m1]⟩) (e : mm [.bor 0, .val p] [m1] = .ok v [m']) : eCall mm (avN 2 (lSl 0 (lPv f lNil))) ⟨some (.bor 0) :: r, [m]⟩ = .ok v ⟨some (.bor 0) :: r, [m']⟩ := by
  have h : (avN 2 (lSl 0 (lPv f lNil))) ⟨some (.bor 0) :: r, [m]⟩ = .ok [.sl 0, .pv p] ⟨some (.bor 0) :: r, [m1]⟩ := by
    simp only [avN, lSl, lPv, lNil, List.getElem?_cons_zero, hf, Res.bind_ok, List.length_cons, List.length_nil, Nat.reduceAdd, if_true]
  unfold eCall
  rw [h]
  show (match mm [.bor 0, .val p] [m1] with | .ok v ms' => Res.ok v (setAll ⟨some (.bor 0) :: r, [m1]⟩ [.inr 0] ms') | .own (.lst l) ms' => .ok (.lst l) (setAll ⟨some (.bor 0) :: r, [m1]⟩ [.inr 0] ms') | .own _ _ => .stuck | .ex c v ms' => .ex c v (setAll ⟨some (.bor 0) :: r, [m1]⟩ [.inr 0] ms') | .stuck => .stuck) = _
  rw [e]
  rfl
theorem call6s {mm : List SV → List MO → FRes} {s0 s1 : Stt} {f0 f1 f2 f3 f4 f5 : Stt → Res PV} {p0 p1 p2 p3 p4 p5 v : PV} (h0 : f0 s0 = .ok p0 s0) (h1 : f1 s0 = .ok p1 s0) (h2 : f2 s0 = .ok p2 s0) (h3 : f3 s0 = .ok p3 s1) (h4 : f4 s1 = .ok p4 s1) (h5 : f5 s1 = .ok p5 s1) (e : mm [.val p0, .val p1, .val p2, .val p3, .val p4, .val p5] [] = .ok v []) : eCall mm (avN 6 (lPv f0 (lPv f1 (lPv f2 (lPv f3 (lPv f4 (lPv f5 lNil))))))) s0 = .ok v s1 := by
  simp only [eCall, avN, lPv, lNil, h0, h1, h2, h3, h4, h5, Res.bind_ok, List.length_cons, List.length_nil, Nat.reduceAdd, if_true, lowerA, distinct, getAll, setAll, e]
theorem eor_t {f g : Stt → Res PV} {st s1 : Stt} (h : f st = .ok (.bl true) s1) : eOr f g st = .ok (.bl true) s1 := by
  unfold eOr
  rw [h]
  rfl
theorem eor_f {f g : Stt → Res PV} {st s1 : Stt} {v : Res PV} (h : f st = .ok (.bl false) s1) (k : g s1 = v) : eOr f g st = v := by
  unfold eOr
  rw [h]
  exact k
theorem e_right {k : Nat} {m : MO} (hp : Pool k m) (hk : k < 2 ^ 30) : ∃ m', m__law_right [.bor 0] [m] = .ok (.bl true) [m'] ∧ Pool (k + 40) m' := by
  obtain ⟨n, l, h, s, r, m1, e1, G, p1⟩ := e_far_guard hp (by omega)
  have g := G.gs
  have n1 := G.n1; have nb := G.nb; have hn := G.hn; have sb := G.sb; have s0 := g.s0
  have t1 : q__law_right_1 ⟨[some (.bor 0), none, none, none, none, none, none, none, none], [m]⟩ = .nx ⟨[some (.bor 0), some (.val (gt l h s r)), some (.val (.int n)), none, none, none, none, none, none], [m1]⟩ := asgG_at (callP0 e1) rfl
  obtain ⟨a, b, m2, e2, a0, a1, b0, b1, p2⟩ := e_pair p1 (by omega)
  have t2 : q__law_right_2 ⟨[some (.bor 0), some (.val (gt l h s r)), some (.val (.int n)), none, none, none, none, none, none], [m1]⟩ = .nx ⟨[some (.bor 0), some (.val (gt l h s r)), some (.val (.int n)), some (.val (.int a)), some (.val (.int b)), none, none, none, none], [m2]⟩ := asgG_at (callP1 rfl e2) rfl
  obtain ⟨d3, m3, e3, x3, z3, p3⟩ := e_dr p2 (by omega) 8 (by decide) (by decide)
  obtain ⟨d4, m4, e4, x4, z4, p4⟩ := e_dr p3 (by omega) 32 (by decide) (by decide)
  obtain ⟨d5, m5, e5, x5, z5, p5⟩ := e_dr p4 (by omega) 4 (by decide) (by decide)
  obtain ⟨W, hWm, i3⟩ := atI_mem [1 + d3, 16, 32, 1 + d4] d5 x5 (by simpa using z5)
  have hW : 1 ≤ W ∧ W ≤ 32 := by simp at hWm; omega
  simp only [List.map_cons, List.map_nil] at i3
  have t3 : q__law_right_3 ⟨[some (.bor 0), some (.val (gt l h s r)), some (.val (.int n)), some (.val (.int a)), some (.val (.int b)), none, none, none, none], [m2]⟩ = .nx ⟨[some (.bor 0), some (.val (gt l h s r)), some (.val (.int n)), some (.val (.int a)), some (.val (.int b)), some (.val (.int W)), none, none, none], [m5]⟩ := asg_at (s1 := ⟨[some (.bor 0), some (.val (gt l h s r)), some (.val (.int n)), some (.val (.int a)), some (.val (.int b)), none, none, none, none], [m5]⟩) (bin_at2 (s1 := ⟨[some (.bor 0), some (.val (gt l h s r)), some (.val (.int n)), some (.val (.int a)), some (.val (.int b)), none, none, none, none], [m4]⟩) (PM.lst_at (acons_at (bin_at2 (p := .int 1) (q := .int d3) rfl (callP1 rfl e3) rfl) (acons_at (s1 := ⟨[some (.bor 0), some (.val (gt l h s r)), some (.val (.int n)), some (.val (.int a)), some (.val (.int b)), none, none, none, none], [m3]⟩) rfl (acons_at (s1 := ⟨[some (.bor 0), some (.val (gt l h s r)), some (.val (.int n)), some (.val (.int a)), some (.val (.int b)), none, none, none, none], [m3]⟩) rfl (acons_at (bin_at2 (p := .int 1) (q := .int d4) rfl (callP1 rfl e4) rfl) rfl)))) (by show (4 : Nat) ≤ 16777216; decide)) (callP1 rfl e5) i3) rfl
  obtain ⟨d6, m6, e6, x6, z6, p6⟩ := e_dr p5 (by omega) 2 (by decide) (by decide)
  obtain ⟨c, hcm, i4⟩ := atI_mem [12, 40] d6 x6 (by simpa using z6)
  have hc : 1 ≤ c ∧ c ≤ 40 := by simp at hcm; omega
  simp only [List.map_cons, List.map_nil] at i4
  have i4' : pIx (.lst [.int 12, .int 40]) (.int d6) = some (.int c) := i4
  obtain ⟨d7, m7, e7, x7, z7, p7⟩ := e_dr p6 (by omega) c (by omega) (by omega)
  obtain ⟨B, hBe⟩ : ∃ B, B = 1 + d7 := ⟨_, rfl⟩
  have hB : 1 ≤ B ∧ B ≤ 40 := by omega
  have ixc : eBin pIx (frz (oLst (aCons (eC (.int 12)) (aCons (eC (.int 40)) aNil)))) (eCall PM.m__law_draw_2 (avN 2 (lSl 0 (lPv (eC (.int 2)) lNil)))) ⟨[some (.bor 0), some (.val (gt l h s r)), some (.val (.int n)), some (.val (.int a)), some (.val (.int b)), some (.val (.int W)), none, none, none], [m5]⟩ = .ok (.int c) ⟨[some (.bor 0), some (.val (gt l h s r)), some (.val (.int n)), some (.val (.int a)), some (.val (.int b)), some (.val (.int W)), none, none, none], [m6]⟩ := bin_at2 (PM.lst_at (l := [.int 12, .int 40]) rfl (by show (2 : Nat) ≤ 16777216; decide)) (callP1 rfl e6) i4'
  have t4 : q__law_right_4 ⟨[some (.bor 0), some (.val (gt l h s r)), some (.val (.int n)), some (.val (.int a)), some (.val (.int b)), some (.val (.int W)), none, none, none], [m5]⟩ = .nx ⟨[some (.bor 0), some (.val (gt l h s r)), some (.val (.int n)), some (.val (.int a)), some (.val (.int b)), some (.val (.int W)), some (.val (.int B)), none, none], [m7]⟩ := asg_at (s1 := ⟨[some (.bor 0), some (.val (gt l h s r)), some (.val (.int n)), some (.val (.int a)), some (.val (.int b)), some (.val (.int W)), none, none, none], [m7]⟩) (bin_at2 (p := .int 1) (q := .int d7) rfl (callPx ixc e7) (by rw [hBe]; rfl)) rfl
  have hP : (W * s) * (1 * B) ≤ 1000000 := by
    have h1 : W * s ≤ 32 * 31 := Int.mul_le_mul hW.2 sb (by omega) (by omega)
    have h2 : (W * s) * (1 * B) ≤ (32 * 31) * 40 := Int.mul_le_mul h1 (by omega) (by omega) (by omega)
    omega
  have ka : a.natAbs < 2 ^ 300 := s3 (by omega) (by omega)
  obtain ⟨P, q0, q1, qW, qs, qz, qB, e8⟩ := e_far (a := a) (b := b) (W := W) (z := 1) (B := B) g (by omega) hW ⟨by decide, by decide⟩ ⟨hB.1, by omega⟩ hP ka
  have f2 := far_sum (a := a) (b := b) (z := 1) (B := B) g hW (by omega) q0 qW qs
  have f3 := far_max (a := a) (b := b) (z := 1) (B := B) g hW (by omega) q0 qW qs
  have t5 : q__law_right_5 ⟨[some (.bor 0), some (.val (gt l h s r)), some (.val (.int n)), some (.val (.int a)), some (.val (.int b)), some (.val (.int W)), some (.val (.int B)), none, none], [m7]⟩ = .nx ⟨[some (.bor 0), some (.val (gt l h s r)), some (.val (.int n)), some (.val (.int a)), some (.val (.int b)), some (.val (.int W)), some (.val (.int B)), some (.val (dueV l h s r (a * s) W B)), none], [m7]⟩ := asg_at (s1 := ⟨[some (.bor 0), some (.val (gt l h s r)), some (.val (.int n)), some (.val (.int a)), some (.val (.int b)), some (.val (.int W)), some (.val (.int B)), none, none], [m7]⟩) (by
    have q := sl_lM (lo := some 2) (hi := none) (fl := pSo (eC (.int 2))) (fh := pNo) (call6_ok (st := ⟨[some (.bor 0), some (.val (gt l h s r)), some (.val (.int n)), some (.val (.int a)), some (.val (.int b)), some (.val (.int W)), some (.val (.int B)), none, none], [m7]⟩) (p0 := gt l h s r) (p1 := .int a) (p2 := .int b) (p3 := .int W) (p4 := .int 1) (p5 := .int B) rfl rfl rfl rfl rfl rfl e8) rfl rfl
    refine q.trans ?_
    have e : pCut ((farV l h s r a b W 1 B P).map PV.int) (some 2) none = [.int (cI 2 (farV l h s r a b W 1 B P)), .int (cI 3 (farV l h s r a b W 1 B P))] := by rfl
    rw [e, f2, f3]
    rfl) rfl
  have hB2 : 1 ≤ B ∧ B ≤ 4096 := by omega
  have c1 := e_told (a := a) (b := b) n1 g hn hW hB2 ka
  have t6 : q__law_right_6 ⟨[some (.bor 0), some (.val (gt l h s r)), some (.val (.int n)), some (.val (.int a)), some (.val (.int b)), some (.val (.int W)), some (.val (.int B)), some (.val (dueV l h s r (a * s) W B)), none], [m7]⟩ = .nx ⟨[some (.bor 0), some (.val (gt l h s r)), some (.val (.int n)), some (.val (.int a)), some (.val (.int b)), some (.val (.int W)), some (.val (.int B)), some (.val (dueV l h s r (a * s) W B)), none], [m7]⟩ := if_no (ne_z (z := true) (s1 := ⟨[some (.bor 0), some (.val (gt l h s r)), some (.val (.int n)), some (.val (.int a)), some (.val (.int b)), some (.val (.int W)), some (.val (.int B)), some (.val (dueV l h s r (a * s) W B)), none], [m7]⟩) (call6_ok rfl rfl rfl rfl rfl rfl c1) rfl (Dd.eq_self (dd_due _ _ _ _ _ _ _) (by decide)))
  obtain ⟨d8, m8, e9, x8, z8, p8⟩ := e_dr p7 (by omega) 100000000000000000000 (by decide) (by decide)
  have c2 := e_told (a := a) (b := d8 - 10000000000000000000) n1 g hn hW hB2 ka
  have cl : eCall m__law_told (avN 6 (lPv (eVar 2) (lPv (eVar 1) (lPv (eVar 3) (lPv (eBin pSub (eCall PM.m__law_draw_2 (avN 2 (lSl 0 (lPv (eBin pPow (eC (.int 10)) (eC (.int 20))) lNil)))) (eBin pPow (eC (.int 10)) (eC (.int 19)))) (lPv (eVar 5) (lPv (eVar 6) lNil))))))) ⟨[some (.bor 0), some (.val (gt l h s r)), some (.val (.int n)), some (.val (.int a)), some (.val (.int b)), some (.val (.int W)), some (.val (.int B)), some (.val (dueV l h s r (a * s) W B)), none], [m7]⟩ = .ok (dueV l h s r (a * s) W B) ⟨[some (.bor 0), some (.val (gt l h s r)), some (.val (.int n)), some (.val (.int a)), some (.val (.int b)), some (.val (.int W)), some (.val (.int B)), some (.val (dueV l h s r (a * s) W B)), none], [m8]⟩ := by
    have b1 : eBin pSub (eCall PM.m__law_draw_2 (avN 2 (lSl 0 (lPv (eBin pPow (eC (.int 10)) (eC (.int 20))) lNil)))) (eBin pPow (eC (.int 10)) (eC (.int 19))) ⟨[some (.bor 0), some (.val (gt l h s r)), some (.val (.int n)), some (.val (.int a)), some (.val (.int b)), some (.val (.int W)), some (.val (.int B)), some (.val (dueV l h s r (a * s) W B)), none], [m7]⟩ = .ok (.int (d8 - 10000000000000000000)) ⟨[some (.bor 0), some (.val (gt l h s r)), some (.val (.int n)), some (.val (.int a)), some (.val (.int b)), some (.val (.int W)), some (.val (.int B)), some (.val (dueV l h s r (a * s) W B)), none], [m8]⟩ := bin_at2 (p := .int d8) (q := .int 10000000000000000000) (callP1 (pow_at 20 (by decide +kernel) (by decide +kernel)) e9) (pow_at 19 (by decide +kernel) (by decide +kernel)) rfl
    exact call6s (s0 := ⟨[some (.bor 0), some (.val (gt l h s r)), some (.val (.int n)), some (.val (.int a)), some (.val (.int b)), some (.val (.int W)), some (.val (.int B)), some (.val (dueV l h s r (a * s) W B)), none], [m7]⟩) (s1 := ⟨[some (.bor 0), some (.val (gt l h s r)), some (.val (.int n)), some (.val (.int a)), some (.val (.int b)), some (.val (.int W)), some (.val (.int B)), some (.val (dueV l h s r (a * s) W B)), none], [m8]⟩) rfl rfl rfl b1 rfl rfl c2
  have t7 : q__law_right_7 ⟨[some (.bor 0), some (.val (gt l h s r)), some (.val (.int n)), some (.val (.int a)), some (.val (.int b)), some (.val (.int W)), some (.val (.int B)), some (.val (dueV l h s r (a * s) W B)), none], [m7]⟩ = .nx ⟨[some (.bor 0), some (.val (gt l h s r)), some (.val (.int n)), some (.val (.int a)), some (.val (.int b)), some (.val (.int W)), some (.val (.int B)), some (.val (dueV l h s r (a * s) W B)), none], [m8]⟩ := if_noZ (ne_z (z := true) (s1 := ⟨[some (.bor 0), some (.val (gt l h s r)), some (.val (.int n)), some (.val (.int a)), some (.val (.int b)), some (.val (.int W)), some (.val (.int B)), some (.val (dueV l h s r (a * s) W B)), none], [m8]⟩) cl rfl (Dd.eq_self (dd_due _ _ _ _ _ _ _) (by decide))) rfl
  obtain ⟨d9, m9, e10, x9, z9, p9⟩ := e_dr p8 (by omega) 100000000000000000000 (by decide) (by decide)
  obtain ⟨y, hy⟩ : ∃ y, y = a + B * (1 + d9) := ⟨_, rfl⟩
  have bm : 0 ≤ B * (1 + d9) ∧ B * (1 + d9) ≤ 40 * 100000000000000000000 := ⟨Int.mul_nonneg (by omega) (by omega), Int.mul_le_mul hB.2 (by omega) (by omega) (by omega)⟩
  have t8 : q__law_right_8 ⟨[some (.bor 0), some (.val (gt l h s r)), some (.val (.int n)), some (.val (.int a)), some (.val (.int b)), some (.val (.int W)), some (.val (.int B)), some (.val (dueV l h s r (a * s) W B)), none], [m8]⟩ = .nx ⟨[some (.bor 0), some (.val (gt l h s r)), some (.val (.int n)), some (.val (.int a)), some (.val (.int b)), some (.val (.int W)), some (.val (.int B)), some (.val (dueV l h s r (a * s) W B)), some (.val (.int y))], [m9]⟩ := asg_at (s1 := ⟨[some (.bor 0), some (.val (gt l h s r)), some (.val (.int n)), some (.val (.int a)), some (.val (.int b)), some (.val (.int W)), some (.val (.int B)), some (.val (dueV l h s r (a * s) W B)), none], [m9]⟩) (bin_at2 (p := .int a) (q := .int (B * (1 + d9))) rfl (bin_at2 (p := .int B) (q := .int (1 + d9)) rfl (bin_at2 (p := .int 1) (q := .int d9) rfl (callP1 (pow_at 20 (by decide +kernel) (by decide +kernel)) e10) rfl) (mulI (s3 (by omega) (by omega)) (s3 (by omega) (by omega)))) (by rw [hy]; rfl)) rfl
  have eq0 : ∀ (v : Int) (i : Nat) (st : Stt), st.ro[i]? = some (some (.val (.int v))) → eBin pEq (eVar i) (eC (.int 0)) st = .ok (.bl (v == 0)) st := fun v i st h => bin_at (p := .int v) (q := .int 0) (by unfold eVar; rw [h]) rfl (by show (pEqB _ _).map PV.bl = _; rw [eqB_int]; rfl)
  have t9 : q__law_right_9 ⟨[some (.bor 0), some (.val (gt l h s r)), some (.val (.int n)), some (.val (.int a)), some (.val (.int b)), some (.val (.int W)), some (.val (.int B)), some (.val (dueV l h s r (a * s) W B)), some (.val (.int y))], [m9]⟩ = .rt (.bl true) ⟨[some (.bor 0), some (.val (gt l h s r)), some (.val (.int n)), some (.val (.int a)), some (.val (.int b)), some (.val (.int W)), some (.val (.int B)), some (.val (dueV l h s r (a * s) W B)), some (.val (.int y))], [m9]⟩ := ret_at (by
    by_cases az : a = 0
    · exact eor_t ((eq0 a 3 _ rfl).trans (by rw [az]; rfl))
    · refine eor_f ((eq0 a 3 _ rfl).trans (by rw [show (a == 0) = false by simpa using az])) ?_
      by_cases yz : y = 0
      · exact eor_t ((eq0 y 8 _ rfl).trans (by rw [yz]; rfl))
      · refine eor_f ((eq0 y 8 _ rfl).trans (by rw [show (y == 0) = false by simpa using yz])) ?_
        have ky : y.natAbs < 2 ^ 300 := s3 (by omega) (by omega)
        have c3 := e_told (a := y) (b := b) n1 g hn hW hB2 ky
        have ne1 : a * s ≠ 0 := Int.mul_ne_zero az (by omega)
        have ne2 : y * s ≠ 0 := Int.mul_ne_zero yz (by omega)
        have md : (y * s) % B = (a * s) % B := by
          rw [hy, Int.add_mul, show B * (1 + d9) * s = B * ((1 + d9) * s) by rw [Int.mul_assoc], Int.add_mul_emod_self_left]
        have dg : ∀ w, DGW l h s r W (y * s) B w = DGW l h s r W (a * s) B w := fun w => by
          unfold DGW
          exact degF_mod (by omega) ne2 ne1 md
        have dv : dueV l h s r (y * s) W B = dueV l h s r (a * s) W B := by
          unfold dueV SD MX
          simp only [dg]
        rw [dv] at c3
        exact bin_at (call6_ok rfl rfl rfl rfl rfl rfl c3) rfl (by
          show (pEqB _ _).map PV.bl = _
          rw [Dd.eq_self (dd_due _ _ _ _ _ _ _) (by decide)]
          rfl))
  refine ⟨m9, ?_, p9.mono (by omega)⟩
  unfold m__law_right
  rw [g__law_right_eq]
  simp only [mOf, start0, List.map_cons, List.map_nil, List.length_cons, List.length_nil, Nat.reduceAdd, Nat.reduceSub, List.replicate, List.cons_append, List.nil_append]
  rw [seq_nx t1, seq_nx t2, seq_nx t3, seq_nx t4, seq_nx t5, seq_nx t6, seq_nx t7, seq_nx t8, seq_rt t9]
  rfl
end K46
/-! K46_V: the law holds. -/
namespace K46
open PySem PySem.Spec PyProof.Rows L2 PL PN PM
theorem rng_at' {a : Int} {n i : Nat} {p : PV} (h : (rng a n)[i]? = some p) : i < n ∧ p = .int (a + i) := by
  have hi := (List.getElem?_eq_some_iff.mp h).1
  rw [rng_length] at hi
  refine ⟨hi, ?_⟩
  unfold rng at h
  rw [List.getElem?_map, List.getElem?_range hi] at h
  exact (Option.some.inj h).symm
theorem callO {mm : List SV → List MO → FRes} {a0 a1 a3 a4 : Option SV} {m m' : MO} {v : PV} (e : mm [.bor 0] [m] = .ok v [m']) : eCall mm (avN 1 (lSl 2 lNil)) ⟨[a0, a1, some (.own m), a3, a4], []⟩ = .ok v ⟨[a0, a1, some (.own m'), a3, a4], []⟩ := by
  show (match mm [.bor 0] [m] with | .ok v ms' => Res.ok v (setAll ⟨[a0, a1, some (.own m), a3, a4], []⟩ [.inl 2] ms') | .own (.lst l) ms' => .ok (.lst l) (setAll ⟨[a0, a1, some (.own m), a3, a4], []⟩ [.inl 2] ms') | .own _ _ => .stuck | .ex c v ms' => .ex c v (setAll ⟨[a0, a1, some (.own m), a3, a4], []⟩ [.inl 2] ms') | .stuck => .stuck) = _
  rw [e]
  rfl
theorem callN {mm : List SV → List MO → FRes} {st : Stt} {f0 f1 : Stt → Res PV} {p0 p1 : PV} {m : MO} (h0 : f0 st = .ok p0 st) (h1 : f1 st = .ok p1 st) (e : mm [.val p0, .val p1] [] = .own m []) : oCall mm (avN 2 (lPv f0 (lPv f1 lNil))) st = .ok m st := by
  simp only [oCall, avN, lPv, lNil, h0, h1, Res.bind_ok, List.length_cons, List.length_nil, Nat.reduceAdd, if_true, lowerA, distinct, getAll, setAll, e]
theorem asgO_at {st s1 s2 : Stt} {i : Nat} {fo : Stt → Res MO} {m : MO} (h : fo st = .ok m s1) (hi : i < s1.ro.length) (hs : setO i m s1 = s2) : gAsgO i fo st = .nx s2 := by
  unfold gAsgO
  rw [h]
  show (if i < s1.ro.length then Fl.nx (setO i m s1) else _) = _
  rw [if_pos hi, hs]
theorem law_true (ns : List Int) (hl : ns.length ≤ 63) : m_law [.val (scrOf ns)] [] = .ok (.bl true) [] := by
  have inner : ∀ (a1 a3 : Option SV) (m : MO), Pool 0 m → ∃ m' a3', l_law_1c_s2 ⟨[some (.val (scrOf ns)), a1, some (.own m), a3, none], []⟩ = .nx ⟨[some (.val (scrOf ns)), a1, some (.own m'), a3', none], []⟩ := by
    intro a1 a3 m hp
    obtain ⟨st, e2, m', a3', rfl, _⟩ := forL_inv (a := l_law_2b) (b := l_law_2c) (fun i st => ∃ m' a3', st = ⟨[some (.val (scrOf ns)), a1, some (.own m'), a3', none], []⟩ ∧ Pool (40 * i) m') (rng 0 4) 0 ⟨[some (.val (scrOf ns)), a1, some (.own m), a3, none], []⟩ ⟨m, a3, rfl, hp⟩ (by
      rintro i p st hpi ⟨m1, a3', rfl, p1⟩
      obtain ⟨hi, rfl⟩ := rng_at' hpi
      rw [Nat.zero_add] at p1 ⊢
      obtain ⟨m2, e, p2⟩ := e_right p1 (by omega)
      have t : l_law_2c_s1 ⟨[some (.val (scrOf ns)), a1, some (.own m1), some (.val (.int (0 + (i : Int)))), none], []⟩ = .nx ⟨[some (.val (scrOf ns)), a1, some (.own m2), some (.val (.int (0 + (i : Int)))), none], []⟩ := if_noZ (nt_z (b := true) (tTru_bl (callO e))) rfl
      exact ⟨⟨[some (.val (scrOf ns)), a1, some (.own m1), some (.val (.int (0 + (i : Int)))), none], []⟩, rfl, _, .inl (by show gSeq l_law_2c_s1 gNop _ = _; exact oneZ t), m2, _, rfl, p2.mono (by omega)⟩)
    exact ⟨m', a3', (for_atZ rfl).trans e2⟩
  obtain ⟨N, hN, hN8⟩ : ∃ N : Nat, iRangeW1 (aCons (eCallB pMax2 (aCons (eC (.int 1)) (aCons (eCallB pMin2 (aCons (eC (.int 6)) (aCons (eCallB pLen (aCons (eVar 0) aNil)) aNil))) aNil))) aNil) ⟨[some (.val (scrOf ns)), none, none, none, none], []⟩ = .ok (rng 0 N) ⟨[some (.val (scrOf ns)), none, none, none, none], []⟩ ∧ N ≤ 1000 := by
    refine ⟨(if (if ((ns.length : Nat) : Int) < 6 then ((ns.length : Nat) : Int) else 6) > 1 then (if ((ns.length : Nat) : Int) < 6 then ((ns.length : Nat) : Int) else 6) else 1).toNat, ?_, by split <;> split <;> omega⟩
    unfold iRangeW1
    rw [show (aCons (eCallB pMax2 (aCons (eC (.int 1)) (aCons (eCallB pMin2 (aCons (eC (.int 6)) (aCons (eCallB pLen (aCons (eVar 0) aNil)) aNil))) aNil))) aNil) ⟨[some (.val (scrOf ns)), none, none, none, none], []⟩ = .ok [.int (if (if ((ns.length : Nat) : Int) < 6 then ((ns.length : Nat) : Int) else 6) > 1 then (if ((ns.length : Nat) : Int) < 6 then ((ns.length : Nat) : Int) else 6) else 1)] ⟨[some (.val (scrOf ns)), none, none, none, none], []⟩ from
      acons_at (callBg (l := [.int 1, .int (if ((ns.length : Nat) : Int) < 6 then ((ns.length : Nat) : Int) else 6)]) (acons_at (s1 := ⟨[some (.val (scrOf ns)), none, none, none, none], []⟩) rfl (acons_at (callBg (l := [.int 6, .int ((ns.length : Nat) : Int)]) (acons_at (s1 := ⟨[some (.val (scrOf ns)), none, none, none, none], []⟩) rfl (acons_at (callB1_at (p := scrOf ns) rfl (by show some (PV.int (((ns.map PV.int).length : Nat) : Int)) = _; rw [List.length_map])) rfl)) rfl) rfl)) rfl) rfl]
    rfl
  obtain ⟨st, e2, a1, a2, a3, rfl⟩ := forL_inv (a := l_law_1b) (b := l_law_1c) (fun _ st => ∃ a1 a2 a3, st = ⟨[some (.val (scrOf ns)), a1, a2, a3, none], []⟩) (rng 0 N) 0 ⟨[some (.val (scrOf ns)), none, none, none, none], []⟩ ⟨none, none, none, rfl⟩ (by
    rintro i p st hpi ⟨a1, a2, a3, rfl⟩
    obtain ⟨hi, rfl⟩ := rng_at' hpi
    obtain ⟨m, e, hp⟩ := e_pool ns i (by omega)
    rw [show (0 + (i : Int)) = (i : Int) by omega]
    have t1 : l_law_1c_s1 ⟨[some (.val (scrOf ns)), some (.val (.int (i : Int))), a2, a3, none], []⟩ = .nx ⟨[some (.val (scrOf ns)), some (.val (.int (i : Int))), some (.own m), a3, none], []⟩ := asgO_at (callN rfl rfl e) (by show (2 : Nat) < 5; decide) rfl
    obtain ⟨m', a3', t2⟩ := inner (some (.val (.int (i : Int)))) a3 m hp
    exact ⟨⟨[some (.val (scrOf ns)), some (.val (.int (i : Int))), a2, a3, none], []⟩, rfl, _, .inl (by show gSeq l_law_1c_s1 (gSeq l_law_1c_s2 gNop) _ = _; rw [seq_nx t1]; exact oneZ t2), _, _, _, rfl⟩)
  have t1 : q_law_1 ⟨[some (.val (scrOf ns)), none, none, none, none], []⟩ = .nx ⟨[some (.val (scrOf ns)), a1, a2, a3, none], []⟩ := (for_atZ hN).trans e2
  obtain ⟨N30, hN30⟩ : ∃ N : Int, N = 1000000000000000000000000000000 := ⟨_, rfl⟩
  have t2 : q_law_2 ⟨[some (.val (scrOf ns)), a1, a2, a3, none], []⟩ = .nx ⟨[some (.val (scrOf ns)), a1, a2, a3, some (.val (.int N30))], []⟩ := asg_at (s1 := ⟨[some (.val (scrOf ns)), a1, a2, a3, none], []⟩) (pow_at 30 (by decide +kernel) (by rw [hN30]; decide +kernel)) rfl
  have kN : N30 < 2 ^ 200 := by rw [hN30]; decide +kernel
  have k1 : (1 : Int) < 2 ^ 200 := by decide +kernel
  have gb : Gs 0 N30 1 0 := ⟨Int.le_refl 0, (by omega : (0 : Int) ≤ N30), kN, Int.le_refl 0, (by decide : (0 : Int) < 1), k1⟩
  have c := e_told (n := N30) (a := 4) (b := 0) (W := 32) (B := 8) (by omega) gb (Int.le_refl _) ⟨by decide, by decide⟩ ⟨by decide, by decide⟩ (by decide +kernel)
  have em : N30 = 0 + 32 * ((31249999999999999999999999999 + 1 : Nat) : Int) := by rw [hN30]; decide +kernel
  have p := per_gen (f := fun l h => SD 1 0 32 (4 * 1) 8 l h) (W := 32) (P := 32) (B := 0) (by decide) (by decide) (by decide) (by decide) (fun l => sd_empty (by decide) (by decide) (by decide) l) (fun l c h l0 hc lc ch => sd_add (by decide) (by decide) (by decide) (by decide) l c h l0 hc lc ch) (fun l h m l0 lh => by
    exact sd_shift (by decide) (by decide) (by decide) (by decide) l0 lh (Int.mul_nonneg (by decide) (by omega)) (Int.emod_one _) (by rw [Int.mul_emod_right])) (31249999999999999999999999999 + 1)
  have q := max_period (s := 1) (r := 0) (W := 32) (y := 4 * 1) (B := 8) (P := 32) (A := 0) (by decide) (by decide) (by decide) (by decide) (by decide) (by decide) (by decide) (by decide) (mx_is (l := 0) (h := 0 + 32) (by decide) (by decide) (by decide) (by decide)) 31249999999999999999999999999
  have s32 : SD 1 0 32 (4 * 1) 8 0 (0 + 32) = 16 := by decide +kernel
  have m32 : MX 1 0 32 (4 * 1) 8 0 (0 + 32) = 16 := by decide +kernel
  have p : SD 1 0 32 (4 * 1) 8 0 N30 = N30 / 2 := by
    rw [em]
    refine p.trans ?_
    show _ * SD 1 0 32 (4 * 1) 8 0 (0 + 32) = _
    rw [s32]
    decide +kernel
  rw [m32, ← em] at q
  have mx : MX 1 0 32 (4 * 1) 8 0 N30 = 16 := (mx_is (by decide) (by decide) (by decide) (by decide)).uniq q
  have dv : dueV 0 N30 1 0 (4 * 1) 32 8 = .lst [.int (N30 / 2), .int 16] := by
    unfold dueV
    rw [p, mx]
  rw [dv] at c
  have dd : Dd (.lst [.int (N30 / 2), .int 16]) 1 := Dd.lst fun p hp => by
    rcases List.mem_cons.mp hp with rfl | hp
    · exact Dd.int _
    · rcases List.mem_cons.mp hp with rfl | hp
      · exact Dd.int _
      · cases hp
  have t3 : q_law_3 ⟨[some (.val (scrOf ns)), a1, a2, a3, some (.val (.int N30))], []⟩ = .rt (.bl true) ⟨[some (.val (scrOf ns)), a1, a2, a3, some (.val (.int N30))], []⟩ := ret_at (bin_at (p := .lst [.int (N30 / 2), .int 16]) (q := .lst [.int (N30 / 2), .int 16]) (call6_ok (p1 := gt 0 N30 1 0) rfl (tup_at (l := [.int 0, .int N30, .int 1, .int 0]) rfl (by show (4 : Nat) ≤ 16777216; decide)) rfl rfl rfl rfl c) (PM.lst_at (acons_at (bin_at (p := .int N30) (q := .int 2) rfl rfl (divI (by decide) (by decide +kernel))) (acons_at (s1 := ⟨[some (.val (scrOf ns)), a1, a2, a3, some (.val (.int N30))], []⟩) rfl rfl)) (by show (2 : Nat) ≤ 16777216; decide)) (by
    show (pEqB _ _).map PV.bl = _
    rw [Dd.eq_self dd (by decide)]
    rfl))
  unfold m_law
  rw [g_law_eq]
  simp only [mOf, start0, List.map_cons, List.map_nil, List.length_cons, List.length_nil, Nat.reduceAdd, Nat.reduceSub, List.replicate, List.cons_append, List.nil_append]
  rw [seq_nx t1, seq_nx t2, seq_rt t3]
  rfl
end K46
open PySem PySem.W PyProof.Rows
set_option maxRecDepth 100000 in
set_option maxHeartbeats 0 in
theorem PySem.Challenge.cw_stridelanes_k46_degrees_of_far_lanes_holds : PySem.Challenge.rw_stridelanes_k46_degrees_of_far_lanes.Holds := by
  w_on; o_law; k_head; (case hw => w_witness2)
  k_fill
  refine PL.walk_ofG (l := PySem.Challenge.rw_stridelanes_k46_degrees_of_far_lanes) (n := 63) (k := 9) (x := "script") (Cn := fun w => L2.CX PySem.Challenge.rw_stridelanes_k46_degrees_of_far_lanes.prog w) (sp := fun w => PL.spX _ K46.m_law) rfl (by decide) rfl ⟨rfl, by decide, by decide⟩ (fun w h Y => PySem.W.kIn_of Y) ?F (fun w H a ns hl hO hS => PL.law_sp K46.law_true hl hS (hT := PL.tabOk_nil)) (fun w H s e s' h => PL.no_cx h)
  case F =>
    intro w mg fa h KX G hmg
    refine' K46.all_mk KX G hmg ?aC_Kernel ?a0 ?l0 ?c0 ?k0 ?a1 ?l1 ?c1 ?k1 ?a2 ?l2 ?c2 ?k2 ?a3 ?l3 ?c3 ?k3 ?a4 ?l4 ?c4 ?k4 ?a5 ?l5 ?c5 ?k5 ?a6 ?l6 ?c6 ?k6 ?a7 ?l7 ?c7 ?k7 ?a8 ?l8 ?c8 ?k8 ?a9 ?l9 ?c9 ?k9 ?a10 ?l10 ?c10 ?k10 ?a11 ?l11 ?c11 ?k11 ?a12 ?l12 ?c12 ?k12 ?a13 ?l13 ?c13 ?k13 ?m13 ?o13 ?a14 ?l14 ?c14 ?k14 ?a15 ?l15 ?c15 ?k15 ?a16 ?l16 ?c16 ?k16 ?a17 ?l17 ?c17 ?k17 ?a18 ?l18 ?c18 ?k18 ?a19 ?l19 ?c19 ?k19 ?a20 ?l20 ?c20 ?k20 ?a21 ?l21 ?c21 ?k21 ?a22 ?l22 ?c22 ?k22 ?a23 ?l23 ?c23 ?k23 ?a24 ?l24 ?c24 ?k24 ?a25 ?l25 ?c25 ?k25 ?a26 ?l26 ?c26 ?k26 ?a27 ?l27 ?c27 ?k27 ?a28 ?l28 ?c28 ?k28 ?a29 ?l29 ?c29 ?k29 ?a30 ?l30 ?c30 ?k30 ?a31 ?l31 ?c31 ?k31 ?a32 ?l32 ?c32 ?k32 ?a33 ?l33 ?c33 ?k33 ?a34 ?l34 ?c34 ?k34 ?a35 ?l35 ?c35 ?k35 ?a36 ?l36 ?c36 ?k36 ?z_abs ?z_all ?z_enumerate ?z_len ?z_max ?z_min ?z_range ?z_set ?z_sorted ?z_sum ?z_tuple ?n_MOST_LETTERS ?n_LETTERS ?n_READ ?n_WRITE ?n_MOST_BANKS ?n_MOST_WAVE ?pg_Kernel ?hd_Kernel ?po_Kernel ?sa_Kernel ?mi_Kernel ?kc_Kernel ?fi_Kernel ?na_Kernel_lane_count ?na_Kernel_kept_statements ?na_Kernel_kept_barriers ?aD_ITEMS ?lD_ITEMS ?tD_ITEMS ?wD_ITEMS ?kD_ITEMS_0 ?kD_ITEMS_1 ?kD_ITEMS_2 ?aD_PLACES ?lD_PLACES ?tD_PLACES ?wD_PLACES ?kD_PLACES_0 ?uD_PLACES_0 ?sD_PLACES_0 ?vD_PLACES_0 ?kD_PLACES_1 ?uD_PLACES_1 ?sD_PLACES_1 ?vD_PLACES_1 ?kD_PLACES_2 ?uD_PLACES_2 ?sD_PLACES_2 ?vD_PLACES_2
    (case aC_Kernel => k_is); (case a0 => k_is); (case l0 => k_is); (case c0 => k_is); (case k0 => k_is); (case a1 => k_is); (case l1 => k_is); (case c1 => k_is); (case k1 => k_is); (case a2 => k_is); (case l2 => k_is); (case c2 => k_is); (case k2 => k_is); (case a3 => k_is); (case l3 => k_is); (case c3 => k_is); (case k3 => k_is); (case a4 => k_is); (case l4 => k_is); (case c4 => k_is); (case k4 => k_is); (case a5 => k_is); (case l5 => k_is); (case c5 => k_is); (case k5 => k_is); (case a6 => k_is); (case l6 => k_is); (case c6 => k_is); (case k6 => k_is); (case a7 => k_is); (case l7 => k_is); (case c7 => k_is); (case k7 => k_is); (case a8 => k_is); (case l8 => k_is); (case c8 => k_is); (case k8 => k_is); (case a9 => k_is); (case l9 => k_is); (case c9 => k_is); (case k9 => k_is); (case a10 => k_is); (case l10 => k_is); (case c10 => k_is); (case k10 => k_is); (case a11 => k_is); (case l11 => k_is); (case c11 => k_is); (case k11 => k_is); (case a12 => k_is); (case l12 => k_is); (case c12 => k_is); (case k12 => k_is); (case a13 => k_is); (case l13 => k_is); (case c13 => k_is); (case k13 => k_is); (case m13 => k_is); (case o13 => k_is); (case a14 => k_is); (case l14 => k_is); (case c14 => k_is); (case k14 => k_is); (case a15 => k_is); (case l15 => k_is); (case c15 => k_is); (case k15 => k_is); (case a16 => k_is); (case l16 => k_is); (case c16 => k_is); (case k16 => k_is); (case a17 => k_is); (case l17 => k_is); (case c17 => k_is); (case k17 => k_is); (case a18 => k_is); (case l18 => k_is); (case c18 => k_is); (case k18 => k_is); (case a19 => k_is); (case l19 => k_is); (case c19 => k_is); (case k19 => k_is); (case a20 => k_is); (case l20 => k_is); (case c20 => k_is); (case k20 => k_is); (case a21 => k_is); (case l21 => k_is); (case c21 => k_is); (case k21 => k_is); (case a22 => k_is); (case l22 => k_is); (case c22 => k_is); (case k22 => k_is); (case a23 => k_is); (case l23 => k_is); (case c23 => k_is); (case k23 => k_is); (case a24 => k_is); (case l24 => k_is); (case c24 => k_is); (case k24 => k_is); (case a25 => k_is); (case l25 => k_is); (case c25 => k_is); (case k25 => k_is); (case a26 => k_is); (case l26 => k_is); (case c26 => k_is); (case k26 => k_is); (case a27 => k_is); (case l27 => k_is); (case c27 => k_is); (case k27 => k_is); (case a28 => k_is); (case l28 => k_is); (case c28 => k_is); (case k28 => k_is); (case a29 => k_is); (case l29 => k_is); (case c29 => k_is); (case k29 => k_is); (case a30 => k_is); (case l30 => k_is); (case c30 => k_is); (case k30 => k_is); (case a31 => k_is); (case l31 => k_is); (case c31 => k_is); (case k31 => k_is); (case a32 => k_is); (case l32 => k_is); (case c32 => k_is); (case k32 => k_is); (case a33 => k_is); (case l33 => k_is); (case c33 => k_is); (case k33 => k_is); (case a34 => k_is); (case l34 => k_is); (case c34 => k_is); (case k34 => k_is); (case a35 => k_is); (case l35 => k_is); (case c35 => k_is); (case k35 => k_is); (case a36 => k_is); (case l36 => k_is); (case c36 => k_is); (case k36 => k_is); (case z_abs => k_is); (case z_all => k_is); (case z_enumerate => k_is); (case z_len => k_is); (case z_max => k_is); (case z_min => k_is); (case z_range => k_is); (case z_set => k_is); (case z_sorted => k_is); (case z_sum => k_is); (case z_tuple => k_is); (case n_MOST_LETTERS => k_is); (case n_LETTERS => k_is); (case n_READ => k_is); (case n_WRITE => k_is); (case n_MOST_BANKS => k_is); (case n_MOST_WAVE => k_is); (case pg_Kernel => k_is); (case hd_Kernel => k_is); (case po_Kernel => k_is); (case sa_Kernel => k_is); (case mi_Kernel => k_is); (case kc_Kernel => k_is); (case fi_Kernel => k_is); (case na_Kernel_lane_count => k_is); (case na_Kernel_kept_statements => k_is); (case na_Kernel_kept_barriers => k_is); (case aD_ITEMS => k_is); (case lD_ITEMS => k_is); (case tD_ITEMS => rfl); (case wD_ITEMS => first | rfl | decide +kernel); (case kD_ITEMS_0 => k_is); (case kD_ITEMS_1 => k_is); (case kD_ITEMS_2 => k_is); (case aD_PLACES => k_is); (case lD_PLACES => k_is); (case tD_PLACES => rfl); (case wD_PLACES => first | rfl | decide +kernel); (case kD_PLACES_0 => k_is); (case uD_PLACES_0 => k_is); (case sD_PLACES_0 => first | decide | decide +kernel); (case vD_PLACES_0 => exact (.cons ⟨_, rfl⟩ .nil)); (case kD_PLACES_1 => k_is); (case uD_PLACES_1 => k_is); (case sD_PLACES_1 => first | decide | decide +kernel); (case vD_PLACES_1 => exact (.cons ⟨_, rfl⟩ (.cons ⟨_, rfl⟩ .nil))); (case kD_PLACES_2 => k_is); (case uD_PLACES_2 => k_is); (case sD_PLACES_2 => first | decide | decide +kernel); (case vD_PLACES_2 => exact (.cons ⟨_, rfl⟩ (.cons ⟨_, rfl⟩ (.cons ⟨_, rfl⟩ .nil))))
