import PyProof.Rows.All
import Wide.All
import OpenK.AllK
import Wide.FinOn
import KE.KStateDown
import HandS.ForMost
import HandS.ForExc
import HandS.Defaults
import HandS.CallSlots
import HandS.HotCalls
import HandS.HeadEnd
import HandS.Walk
import HandS.Head0
import HandS.Head1
import HandS.Head2
import HandS.HeadHook1
import HandS.HeadHook2
import HandS.TupAny
import HandS.TupLe
import HandS.IsInst
import HandS.Style
import HandS.Deep
import KE.GoesMore
import KE.GoesEnum
import HandS.Zip
import HandS.Iter
import HandS.List
import HandS.SortInts
import HandS.More
import HandS.Sort
import HandS.TryOnly
import PyProof.ReprRoads
import HandS.ExcInit
import HandS.ExcCtx
import HandS.ExcIs
import HandS.ExcField
import KE.KSuper
import HandS.RaiseMore
import HandS.HeadWalk
import KE.KExcSuper
import KE.KExcIs
import KE.KIsAll
import HandS.HeadHook4
import PySem.Challenge.RW_slotspromised_k00_spans_by_their_periods
set_option Elab.async false
set_option linter.all false
set_option maxRecDepth 100000
set_option maxHeartbeats 0
namespace DLU
open PySem PySem.Spec PyProof.Rows L2
/-! ### the contract of a def: calls where nothing is handled, or where one error is handled; no repr is under way -/
/-- what is handled around a call: nothing, or the error p -/
def Mood (A : Around) (outer : List Env) (H : Hp) (s : Shared) : Option (Addr × Obj) → Prop
  | none => A.handled = none
  | some p => L2H.Hot1 A p ∧ L2H.PinOk outer H s p
/-- enough room -/
structure Rm (k : Nat) (A : Around) : Prop where
  dp : A.depth + 3 * k + 5 < recursionLimit
  un : A.units + 16 * k + 200 < cLine
  gd : A.guards = some []
theorem Rm.mono {j k : Nat} {A : Around} (r : Rm k A) (h : j ≤ k) : Rm j A := ⟨by have := r.dp; omega, by have := r.un; omega, r.gd⟩
theorem Rm.units {k : Nat} {A : Around} (r : Rm k A) : A.units + 64 < cLine := by have := r.un; omega
theorem Rm.hot {k : Nat} {A : Around} (r : Rm k A) : L2H.RoomH k A := ⟨r.dp, r.un⟩
theorem Rm.room {k : Nat} {A : Around} (r : Rm k A) (h : A.handled = none) : Room k A := ⟨h, r.dp, r.un⟩
theorem Rm.deeper {k : Nat} {A : Around} (r : Rm (k + 1) A) (env : Env) : Rm k (A.deeper env) :=
  ⟨(r.hot.deeper env).dp, (r.hot.deeper env).un, r.gd⟩
abbrev CXn (P : Program) (w : World) : CXT := L2N.CX P w
/-- the body's context, by the mood -/
def cxU (P : Program) (w : World) (K : PySem.W.Frag) (mg : Str → Option Value) (base : Heap) (N : List Str) (qual : Str) (scope : Scope) (f : Addr) (cd : Value) (A : Around) (outer : List Env) (s : Shared) (H : Hp) (E : XK) (m : Option (Addr × Obj)) : Cx :=
  { cxOf (CXn P w) P w K mg base N qual scope f cd A outer s H E with calm := m.isNone, pn := m.toList }
structure FnU (P : Program) (w : World) (K : PySem.W.Frag) (mg : Str → Option Value) (base : Heap) (hot : Bool) (k : Nat) (f : Addr) (fd : FuncData) (ps : List Str) (sp : Sp) : Prop where
  len : ∀ vs H Q E, sp vs H Q E → vs.length = ps.length
  run : ∀ (A : Around) (outer : List Env) (s : Shared) (H : Hp) (args : Args) (us : List Value) (vs : List V) (Q : VK) (E : XK) (m : Option (Addr × Obj)), Rm k A → (m.isSome = true → hot = true) → Mood A outer H s m → Env0 P w K mg base A outer s H → BindsTo s fd args (ps.zip us) → Vals vs us → sp vs H Q E →
    codeAny (model P w) A (.call (.ref f) args) (CR (CXn P w) outer P w H s Q E) s
section
variable {P : Program} {w : World} {K : PySem.W.Frag} {mg : Str → Option Value} {base : Heap} {k : Nat} {f : Addr} {hot : Bool}
theorem fnU_of {name qual : Str} {params : Arguments} {body : List Stmt} {scope : Scope} {dV kV doc pm cdv ct oc : Value} {an od : Option Addr} {osl : Array (Option Value)} {N ps : List Str} {sp : Sp}
    (lk : K.lookup f = some ⟨oc, od, .func (PySem.W.fnOf name qual params body scope dV kV doc pm an cdv ct), osl⟩) (hcd : PySem.W.codeIn K cdv qual = true) (S : FnScope N ps scope) (len : ∀ vs H Q E, sp vs H Q E → vs.length = ps.length)
    (hbody : ∀ (A : Around) (outer : List Env) (s : Shared) (H : Hp) (vs : List V) (Q : VK) (E : XK) (m : Option (Addr × Obj)), Rm k (A.deeper (envOfC qual scope s.heap.objs.size f cdv)) → (m.isSome = true → hot = true) → Mood A outer H s m → sp vs H Q E →
      ∃ t, PSs (cxU P w K mg base N qual scope f cdv A outer s H E m) body t ∧ t { nx := fun _ H' => Q .non H', rt := Q } (L2.start N vs) H) :
    FnU P w K mg base hot (k + 1) f (PySem.W.fnOf name qual params body scope dV kV doc pm an cdv ct) ps sp := by
  constructor
  · exact len
  · intro A outer s H args us vs Q E m room hm mood env bind rel want
    have count := len _ _ _ _ want
    have KIn : K.In s.heap := env.mod.kin.keeps fun b o e => (env.bs b o e).1
    have wide : s.heap.NoLimit := env.mod.nolimit.keeps fun b o e => (env.bs b o e).1
    have kinds : ∀ y ∈ ps.zip us, scope.names.lookup y.1 = some .local ∨ (scope.names.lookup y.1 = some .cell ∧ ((cellsFrom (s.heap.objs.size + 1) scope.names []).lookup y.1).isSome = true) := by
      intro y hy
      rcases S.par y.1 (List.of_mem_zip (a := y.1) (b := y.2) hy).1 with q | q
      · exact Or.inl q
      · exact Or.inr ⟨q, PySem.W.cellsFrom_some _ _ _ (Or.inl q)⟩
    apply codeAny_call_function room.hot.depth (KIn _ _ lk) rfl S.co S.gen rfl (PySem.W.codeRec_of KIn hcd)
    apply bind
    apply wpAny_newFunctionEnv_cells S.kind kinds
    intro env1 he s1 x
    subst he
    refine ⟨wide.keeps x.toInCall.keep, codeAny_func ?_⟩
    obtain ⟨t, ht, hq⟩ := hbody A outer s H vs Q E m (room.deeper _) hm mood want
    have J : Inv (cxU P w K mg base N qual scope f cdv A outer s H E m) [] (L2.start N vs) H s1 := by
      cases m with
      | none => exact inv_start (CX := CXn P w) S mood env count rel x
      | some p => exact L2H.inv_startH (CX := CXn P w) S mood.2 env count rel x
    have done : ∀ {σ2 : L2.St} {H2 : Hp} {v : V} {u : Value} {s2 : Shared}, Inv (cxU P w K mg base N qual scope f cdv A outer s H E m) [] σ2 H2 s2 → RelV v u → Q v H2 → CE outer P w H s Q u s2 := by
      intro σ2 H2 v u s2 J2 rv q
      exact ⟨v, H2, J2.os, J2.bare, J2.base, J2.hok, rv, q⟩
    refine wpAny_mono (ht.run [] s1 (L2.start N vs) H _ J hq) ?_ (fun e s2 hs => hs)
    intro fl s2 hs
    cases fl
    case ret u => obtain ⟨v, σ2, H2, J2, rv, q⟩ := hs; exact done J2 rv q
    case next => obtain ⟨σ2, H2, J2, q⟩ := hs; exact done (v := V.non) (u := Value.none) J2 rfl q
    case brk => obtain ⟨_, _, _, q⟩ := hs; exact q.elim
    case cont => obtain ⟨_, _, _, q⟩ := hs; exact q.elim
/-- a def that stands, by its body -/
theorem FunD.okU {x qual : Str} {params : Arguments} {body : List Stmt} {scope : Scope} {dvs : List V} {kws : List (Str × V)} {fd : FuncData} {N ps : List Str} {sp : Sp} (F : FunD K x qual params body scope dvs kws f fd) (S : FnScope N ps scope) (len : ∀ vs H Q E, sp vs H Q E → vs.length = ps.length)
    (hbody : ∀ (cdv : Value) (A : Around) (outer : List Env) (s : Shared) (H : Hp) (vs : List V) (Q : VK) (E : XK) (m : Option (Addr × Obj)), Rm k (A.deeper (envOfC qual scope s.heap.objs.size f cdv)) → (m.isSome = true → hot = true) → Mood A outer H s m → sp vs H Q E →
      ∃ t, PSs (cxU P w K mg base N qual scope f cdv A outer s H E m) body t ∧ t { nx := fun _ H' => Q .non H', rt := Q } (L2.start N vs) H) : FnU P w K mg base hot (k + 1) f fd ps sp := by
  obtain ⟨oc, od, dV, kV, doc, pm, an, cdv, ct, osl, e, lk, hcd, _, _⟩ := F.ex
  subst e
  exact fnU_of lk hcd S len (hbody cdv)
end
/-! ### calls -/
/-- the mood of a context -/
def Mo (X : Cx) (hot : Bool) : Prop := X.calm = true ∨ (hot = true ∧ L2H.HotC X)
theorem Mo.c {X : Cx} (h : Mo X false) : X.calm = true := h.elim id fun z => absurd z.1 (by decide)
theorem Mo.calm {X : Cx} {hot : Bool} (h : X.calm = true) : Mo X hot := .inl h
section
variable {X : Cx} {k : Nat} {f : Addr} {fd : FuncData} {ps : List Str} {sp : Sp} {dvs : List V} {ds : List Value} {E : L2.St → XK} {x : Str} {p pos : Pos} {e : Expr} {es : List Expr} {t : TA} {hot : Bool}
theorem Mo.mood (h : Mo X hot) {pins : List (Addr × Obj)} {σ : L2.St} {H : Hp} {s : Shared} (J : Inv X pins σ H s) : ∃ m : Option (Addr × Obj), (m.isSome = true → hot = true) ∧ Mood X.A X.stack H s m := by
  rcases h with h | ⟨h, p, h1, h2⟩
  · exact ⟨none, fun z => absurd z (by simp), J.ok.hd h⟩
  · have P1 := J.pin p (List.mem_append_left _ h2)
    exact ⟨some p, fun _ => h, h1, P1.1, P1.2.1, fun hm => (List.mem_cons.mp (J.stkSub p.1 hm)).elim P1.2.2.1 P1.2.2.2.1, P1.2.2.2.2⟩
theorem runU {pins : List (Addr × Obj)} {σ : L2.St} {H : Hp} {s : Shared} {Q : VK} {us : List Value} {vs : List V} (F : FnU X.prog X.w X.K X.mg X.base hot k f fd ps sp) (hr : Rm k X.A) (mo : Mo X hot) (hb : Binds X.K fd ps ds) (hd : Vals dvs ds) (hx : PassesAt (CXn X.prog X.w) X σ (E σ))
    (J : Inv X pins σ H s) (rel : Vals vs us) (want : sp (vs ++ dvs) H Q (E σ)) : wpAny (model X.prog X.w) X.A (call (.ref f) us) (EP X pins σ Q) X.xe s := by
  obtain ⟨m, hm, md⟩ := mo.mood J
  have rel2 : Vals (vs ++ dvs) (us ++ ds) := rel.append hd
  have count : (us ++ ds).length = ps.length := rel2.length.symm.trans (F.len _ _ _ _ want)
  apply wpAny_call
  refine codeAny_mono (F.run X.A X.stack s H ⟨us, []⟩ (us ++ ds) (vs ++ dvs) Q (E σ) m hr hm md J.env0 (hb s us J.kIn count) rel2 want) ?_
  intro r s2 q
  match r, q with
  | .error e, q => exact hx pins H s e s2 J q
  | .ok (.ret u), q => exact J.after q
theorem pe_callU (F : FnU X.prog X.w X.K X.mg X.base hot k f fd ps sp) (hr : Rm k X.A) (mo : Mo X hot) (hg : Gl X x) (hm : X.mg x = some (.ref f)) (hk : PySem.W.keepIn X.K (.ref f) = true) (hb : Binds X.K fd ps ds) (hd : Vals dvs ds) (hx : ∀ σ, PassesAt (CXn X.prog X.w) X σ (E σ))
    (ha : PA X (e :: es) t) (hdb : (x == ("__debug__" : Str)) = false := by decide) (he : starEach (e :: es) X.env = (false, eval e X.env) :: starEach es X.env := by rfl) (hpl : (backTo pos (starEach es X.env)).any (·.1) = false := by rfl) :
    PE X (.Call (.Name x p) (e :: es) [] pos) (tCallSD sp dvs E t) := by
  constructor
  intro pins s σ H Q J h
  apply wpAny_Call_Name_kw (ld_glob J hg hm _ hdb)
  apply PySem.W.callWith_K (h₀ := X.base) J.ok.mod.kin hk _ he hpl
  exact thn (ha.run pos pins s σ H _ J h) fun us s1 hh => by
    obtain ⟨vs, H1, J1, r, q⟩ := hh
    exact ⟨J1.kIn, runU F hr mo hb hd (hx σ) J1 r q⟩
end
/-! ### the law's own call -/
theorem law_callU {P : Program} {w : World} {K : PySem.W.Frag} {mg mb : Str → Option Value} {hot : Bool} {k : Nat} {fa a : Addr} {fd : FuncData} {x : Str} {sp : Sp} {t : Shared} {vs : List Value} {ns : List Int}
    (KX : K.In t.heap) (hns : t.heap.Ns mainGlobals mg) (hb : t.heap.Ns builtinsNs mb) (hbb : ∀ x : Str, x ≠ "__name__" → mb x = bootBuiltins x) (hlim : t.heap.NoLimit) (hg : t.gens = #[])
    (ha : t.heap.get? a = some { cls := .type "list", data := .seq vs.toArray }) (hi : IntsAre vs ns) (hl : ns.length ≤ sizeLine) (hr : Rm k callerA)
    (F : ∀ base : Heap, K.In base → base.Ns mainGlobals mg → FnU P w K mg base hot k fa fd [x] sp) (hbind : ∀ (s : Shared) (u : Value), BindsTo s fd ⟨[u], []⟩ [(x, u)])
    (hsp : ∀ H : Hp, Only H → SqL K H a (ns.map V.int) → sp [.ref a] H (fun v _ => v = .bl true) fun _ _ _ => False)
    (hCX : ∀ H e s', CXn P w [] H t (fun _ _ _ => False) e s' → False) :
    codeAny (model P w) callerA (.call (.ref fa) ⟨[.ref a], []⟩) (fun r s' => r = .ok (.ret (.bool true)) ∧ OldK t.heap s'.heap ∧ s'.os = t.os ∧ AllBare s'.gens) t := by
  -- what may be tracked: the script alone
  have main : ∀ H : Hp, Only H → SqL K H a (ns.map V.int) → HOk P w H t.heap → (∀ b, H b ≠ none → b = a) → (H a ≠ none → K.lookup a = none) → codeAny (model P w) callerA (.call (.ref fa) ⟨[.ref a], []⟩) (fun r s' => r = .ok (.ret (.bool true)) ∧ OldK t.heap s'.heap ∧ s'.os = t.os ∧ AllBare s'.gens) t := by
    intro H only seq ok just fresh
    have tracked : ∀ {b : Addr} {u : HO}, H b = some u → b = a := fun {b u} q => just b (by rw [q]; exact fun z => nomatch z)
    have dicts : ∀ {b : Addr} {m : Str → Option Value}, t.heap.Ns b m → (hidT t.heap H).Ns b m := by
      rintro b m ⟨o, es, ep, e, d, r⟩
      refine ⟨o, es, ep, hidT_get e ?_, d, r⟩
      cases q : H b with
      | none => rfl
      | some u =>
        have z := tracked q
        subst z
        rw [ha] at e
        injection e with e
        subst e
        exact absurd d (fun z => by cases z)
    have written : K.In (hidT t.heap H) := by
      intro b o e
      refine hidT_get (KX b o e) ?_
      cases q : H b with
      | none => rfl
      | some u =>
        have z := tracked q
        subst z
        have := fresh (by rw [q]; exact fun z => nomatch z)
        rw [e] at this
        exact nomatch this
    have md : Mod K mg (hidT t.heap H) := ⟨written, dicts hns, ⟨mb, dicts hb, hbb⟩, by obtain ⟨mc, h1, h2⟩ := hlim; exact ⟨mc, dicts h1, h2⟩⟩
    have entry : Env0 P w K mg (hidT t.heap H) callerA [] t H := by
      constructor
      · rfl
      · exact md
      · exact fun b o e => of_hidT e
      · exact Nat.le_of_eq (hidT_size _ _)
      · exact trivial
      · exact fun b hb => absurd hb (by show ¬ b ∈ ([] : List Addr); simp)
      · exact ok
      · exact .of_eq hg
    have go := (F _ written (dicts hns)).run callerA [] t H ⟨[.ref a], []⟩ [.ref a] [.ref a] (fun v _ => v = .bl true) (fun _ _ _ => False) none hr (fun z => absurd z (by simp)) rfl entry (hbind t (.ref a)) (.cons rfl .nil) (hsp H only seq)
    refine codeAny_mono go ?_
    intro r s2 q
    match r, q with
    | .error e, q => exact (hCX H e s2 q).elim
    | .ok (.ret u), q =>
      obtain ⟨v, H2, os, bare, un, ok2, rv, e⟩ := q
      have e' : v = .bl true := e
      subst e'
      have e'' : u = Value.bool true := rv
      subst e''
      refine ⟨rfl, OldK.of_keep ?_, os, bare⟩
      intro b o eb
      rcases only b with q | ⟨ob, xs, q⟩
      · exact un.keep b o eb q (fun z => absurd (show b ∈ ([] : List Addr) from z) (by simp)) (by simp)
      · obtain ⟨e1, _⟩ := ok b _ q
        obtain ⟨e2, _⟩ := ok2 b _ (un.frzs b ob _ q)
        rw [eb] at e1
        injection e1 with e1
        subst e1
        exact e2
  have many := hi.length
  by_cases known : ∃ o, K.lookup a = some o
  · obtain ⟨o, hk⟩ := known
    have e := KX a o hk
    rw [ha] at e
    injection e with e
    subst e
    apply main (fun _ => none)
    · exact fun _ => Or.inl rfl
    · exact Or.inr ⟨_, vs.toArray, _, hk, rfl, rfl, rfl, by rw [List.size_toArray, many]; exact hl, by simpa using vals_ints hi⟩
    · exact fun b u z => nomatch z
    · exact fun b z => absurd rfl z
    · exact fun z => absurd rfl z
  · have hk : K.lookup a = none := by
      cases q : K.lookup a with
      | none => rfl
      | some o => exact absurd ⟨o, q⟩ known
    let O : HO := .frz { cls := .type "list", data := .seq vs.toArray } (.lst (ns.map V.int))
    have at_ : ∀ b, b = a → (if b = a then some O else none) = some O := fun b z => if_pos z
    have off : ∀ b, b ≠ a → (if b = a then some O else none) = none := fun b z => if_neg z
    apply main (fun b => if b = a then some O else none)
    · intro b
      by_cases z : b = a
      · exact Or.inr ⟨_, _, at_ b z⟩
      · exact Or.inl (off b z)
    · exact Or.inl (Or.inr ⟨_, at_ a rfl⟩)
    · intro b u q
      by_cases z : b = a
      · have q' : some O = some u := (at_ b z).symm.trans q
        injection q' with q'
        subst q'
        subst z
        exact ⟨ha, by rw [List.length_map]; exact hl, vs, _, vals_ints hi, ha⟩
      · have q' : none = some u := (off b z).symm.trans q
        exact nomatch q'
    · intro b q
      by_cases z : b = a
      · exact z
      · exact absurd (off b z) q
    · exact fun _ => hk
/-- a law's end over a head by facts -/
theorem walk_ofU {l : PySem.W.OpenLaw} {n k : Nat} {q : Program} {loose : List Str} {XP : (Str → Option Value) → Heap → Prop} {YP : World → Heap → Prop} {d : DefRec} {x : Str} {hot : Bool}
    (hn : l.most = some n) (hn2 : n ≤ sizeLine) (hdf : d.params.defaults = []) (hr : Rm k callerA)
    (F : ∀ (w : World) (mg : Str → Option Value) (fa : Addr) (h : Heap), YP w h → h.Ns mainGlobals mg → mg d.name = some (.ref fa) →
      ∃ (K : PySem.W.Frag) (fd : FuncData) (sp : Sp), K.In h ∧ (∀ (s : Shared) (u : Value), BindsTo s fd ⟨[u], []⟩ [(x, u)]) ∧
        (∀ (H : Hp) (a : Addr) (ns : List Int), ns.length ≤ n → Only H → SqL K H a (ns.map V.int) → sp [.ref a] H (fun v _ => v = .bl true) fun _ _ _ => False) ∧
        ∀ base : Heap, K.In base → base.Ns mainGlobals mg → FnU l.prog w K mg base hot k fa fd [x] sp) :
    PySem.W.WalkO q loose XP YP l.row.toRowW d [] (fun f vs => PySem.call f vs) := by
  apply Att.attach_call hn hdf
  intro w s0 s1 mg mb fa o pm cd doc a vs ns G Y ho hd hcd hmg hobj hints hlen hg
  obtain ⟨K, fd, sp, KX, hb, hsp, hF⟩ := F w mg fa _ Y G.T.g hmg
  apply law_callU KX G.T.g G.T.b G.T.builtins G.T.nolimit hg hobj hints (Nat.le_trans hlen hn2) hr hF hb
  · exact fun H hO hS => hsp H a ns hlen hO hS
  · intro H e s' h
    obtain ⟨a, B, H', cls, d, h1, h2, h3, h4, h5, h6, h7, z⟩ := h
    first
    | exact z
    | exact z.2
    | exact z.2.2
end DLU
namespace DL
open PySem L2

/-- plain data -/
inductive D where
  | non | bl (b : Bool) | int (i : Int) | str (x : Str) | ty (n : String) | rf (a : Addr)
  | tup (xs : List D) | lst (xs : List D) | fl (xs : List D)
  | dk (ks : List Key) (xs : List D) | dt (ks : List (List Key)) (xs : List D)

abbrev Ext (F H : Hp) : Prop := ∀ a o, F a = some o → H a = some o
theorem Ext.refl (F : Hp) : Ext F F := fun _ _ h => h
theorem Ext.trans {F G H : Hp} (a : Ext F G) (b : Ext G H) : Ext F H := fun x o h => b x o (a x o h)
theorem Ext.new {H : Hp} {p : Addr} {o : HO} (h : H p = none) : Ext H (upd H p o) := fun a u e => by
  rw [upd_ne (ne_of_none e h)]; exact e

theorem ext_rd {H H' : Hp} {a : Addr} {u : HO} (e : Ext H H') (h : Rd H a u) : Rd H' a u := by
  rcases h with h | ⟨o, h⟩
  · exact .inl (e a _ h)
  · exact .inr ⟨o, e a _ h⟩
theorem ext_l {K : PySem.W.Frag} {H H' : Hp} {a : Addr} {xs : List V} (e : Ext H H') (h : SqL K H a xs) : SqL K H' a xs := by
  rcases h with h | h
  · exact .inl (ext_rd e h)
  · exact .inr h
theorem ext_t {K : PySem.W.Frag} {H H' : Hp} {a : Addr} {xs : List V} (e : Ext H H') (h : SqT K H a xs) : SqT K H' a xs := by
  rcases h with h | h
  · exact .inl (ext_rd e h)
  · exact .inr h

/-- a tuple to be read: tracked, or the module's own -/
def TupAt (K : PySem.W.Frag) (F : Hp) (a : Addr) (vs : List V) : Prop := F a = some (.tup vs) ∨
  ∃ (o : Obj) (its : Array Value) (n : Nat), K.lookup a = some o ∧ o.cls = .type "tuple" ∧ o.data = .seq its n ∧ its.size ≤ sizeLine ∧ Vals vs its.toList
theorem TupAt.sqt {K : PySem.W.Frag} {F H : Hp} {a : Addr} {vs : List V} (h : TupAt K F a vs) (e : Ext F H) : SqT K H a vs := by
  rcases h with h | h
  · exact .inl (.inl (e _ _ h))
  · exact .inr h
theorem TupAt.mono {K : PySem.W.Frag} {F H : Hp} {a : Addr} {vs : List V} (h : TupAt K F a vs) (e : Ext F H) : TupAt K H a vs := by
  rcases h with h | h
  · exact .inl (e _ _ h)
  · exact .inr h
mutual
inductive Rep (K : PySem.W.Frag) (F : Hp) : V → D → Prop
  | non : Rep K F .non .non
  | bl (b : Bool) : Rep K F (.bl b) (.bl b)
  | int (i : Int) : Rep K F (.int i) (.int i)
  | str (x : Str) : Rep K F (.str x) (.str x)
  | ty (n : String) : Rep K F (.ty n) (.ty n)
  | rf (a : Addr) : Rep K F (.ref a) (.rf a)
  | tup {a : Addr} {vs : List V} {ds : List D} : TupAt K F a vs → RepL K F vs ds → Rep K F (.ref a) (.tup ds)
  | lst {a : Addr} {vs : List V} {ds : List D} : F a = some (.lst vs) → RepL K F vs ds → Rep K F (.ref a) (.lst ds)
  | fl {a : Addr} {vs : List V} {ds : List D} : SqL K F a vs → RepL K F vs ds → Rep K F (.ref a) (.fl ds)
  | dk {a : Addr} {kvs : List (Key × V)} {ks : List Key} {ds : List D} : Rd F a (.dK kvs) → kvs.map (·.1) = ks → RepL K F (kvs.map (·.2)) ds → Rep K F (.ref a) (.dk ks ds)
  | dt {a : Addr} {kvs : List (List Key × V)} {ks : List (List Key)} {ds : List D} : Rd F a (.dT kvs) → kvs.map (·.1) = ks → RepL K F (kvs.map (·.2)) ds → Rep K F (.ref a) (.dt ks ds)
inductive RepL (K : PySem.W.Frag) (F : Hp) : List V → List D → Prop
  | nil : RepL K F [] []
  | cons {v : V} {d : D} {vs : List V} {ds : List D} : Rep K F v d → RepL K F vs ds → RepL K F (v :: vs) (d :: ds)
end

mutual
theorem Rep.mono {K : PySem.W.Frag} {F F' : Hp} (e : Ext F F') : ∀ {v : V} {d : D}, Rep K F v d → Rep K F' v d
  | _, _, .non => .non
  | _, _, .bl b => .bl b
  | _, _, .int i => .int i
  | _, _, .str x => .str x
  | _, _, .ty n => .ty n
  | _, _, .rf a => .rf a
  | _, _, .tup h r => .tup (h.mono e) (RepL.mono e r)
  | _, _, .lst h r => .lst (e _ _ h) (RepL.mono e r)
  | _, _, .fl h r => .fl (ext_l e h) (RepL.mono e r)
  | _, _, .dk h k r => .dk (ext_rd e h) k (RepL.mono e r)
  | _, _, .dt h k r => .dt (ext_rd e h) k (RepL.mono e r)
theorem RepL.mono {K : PySem.W.Frag} {F F' : Hp} (e : Ext F F') : ∀ {vs : List V} {ds : List D}, RepL K F vs ds → RepL K F' vs ds
  | _, _, .nil => .nil
  | _, _, .cons h r => .cons (Rep.mono e h) (RepL.mono e r)
end

section
variable {K : PySem.W.Frag} {F : Hp}
theorem RepL.length : ∀ {vs : List V} {ds : List D}, RepL K F vs ds → vs.length = ds.length
  | _, _, .nil => rfl
  | _, _, .cons _ r => congrArg (· + 1) (RepL.length r)
theorem RepL.get : ∀ {vs : List V} {ds : List D} {i : Nat} {d : D}, RepL K F vs ds → ds[i]? = some d → ∃ v, vs[i]? = some v ∧ Rep K F v d
  | _, _, _, _, .nil, e => by simp at e
  | _, _, 0, _, .cons h _, e => by simp at e; subst e; exact ⟨_, rfl, h⟩
  | _, _, i + 1, _, .cons _ r, e => by
    obtain ⟨v, h1, h2⟩ := RepL.get (i := i) r (by simpa using e)
    exact ⟨v, by simpa using h1, h2⟩
theorem RepL.getV : ∀ {vs : List V} {ds : List D} {i : Nat} {v : V}, RepL K F vs ds → vs[i]? = some v → ∃ d, ds[i]? = some d ∧ Rep K F v d
  | _, _, _, _, .nil, e => by simp at e
  | _, _, 0, _, .cons h _, e => by simp at e; subst e; exact ⟨_, rfl, h⟩
  | _, _, i + 1, _, .cons _ r, e => by
    obtain ⟨v, h1, h2⟩ := RepL.getV (i := i) r (by simpa using e)
    exact ⟨v, by simpa using h1, h2⟩
theorem RepL.append : ∀ {vs ws : List V} {ds es : List D}, RepL K F vs ds → RepL K F ws es → RepL K F (vs ++ ws) (ds ++ es)
  | _, _, _, _, .nil, q => q
  | _, _, _, _, .cons h r, q => .cons h (RepL.append r q)
theorem RepL.one {v : V} {d : D} (h : Rep K F v d) : RepL K F [v] [d] := .cons h .nil
theorem RepL.take : ∀ {vs : List V} {ds : List D} (n : Nat), RepL K F vs ds → RepL K F (vs.take n) (ds.take n)
  | _, _, 0, _ => by simpa using RepL.nil
  | _, _, _ + 1, .nil => by simpa using RepL.nil
  | _, _, n + 1, .cons h r => by simpa using RepL.cons h (RepL.take n r)
theorem RepL.drop : ∀ {vs : List V} {ds : List D} (n : Nat), RepL K F vs ds → RepL K F (vs.drop n) (ds.drop n)
  | _, _, 0, h => by simpa using h
  | _, _, _ + 1, .nil => by simpa using RepL.nil
  | _, _, n + 1, .cons h r => by simpa using RepL.drop n r
theorem RepL.set : ∀ {vs : List V} {ds : List D} {v : V} {d : D} (i : Nat), Rep K F v d → RepL K F vs ds → RepL K F (vs.set i v) (ds.set i d)
  | _, _, _, _, _, _, .nil => by simpa using RepL.nil
  | _, _, _, _, 0, h, .cons _ r => by simpa using RepL.cons h r
  | _, _, _, _, i + 1, h, .cons h' r => by simpa using RepL.cons h' (RepL.set i h r)
theorem RepL.reverse : ∀ {vs : List V} {ds : List D}, RepL K F vs ds → RepL K F vs.reverse ds.reverse
  | _, _, .nil => by simpa using RepL.nil
  | _, _, .cons h r => by simpa using (RepL.reverse r).append (RepL.one h)
theorem RepL.ints : ∀ {vs : List V} {ns : List Int}, RepL K F vs (ns.map D.int) → vs = ns.map V.int
  | vs, [], h => by cases h; rfl
  | vs, n :: ns, h => by
    cases h with
    | cons h r => cases h; rw [RepL.ints r]; rfl
theorem RepL.bls : ∀ {vs : List V} {ns : List Bool}, RepL K F vs (ns.map D.bl) → vs = ns.map V.bl
  | vs, [], h => by cases h; rfl
  | vs, n :: ns, h => by
    cases h with
    | cons h r => cases h; rw [RepL.bls r]; rfl
theorem RepL.strs : ∀ {vs : List V} {ns : List Str}, RepL K F vs (ns.map D.str) → vs = ns.map V.str
  | vs, [], h => by cases h; rfl
  | vs, n :: ns, h => by
    cases h with
    | cons h r => cases h; rw [RepL.strs r]; rfl
theorem RepL.ofInts : ∀ ns : List Int, RepL K F (ns.map V.int) (ns.map D.int)
  | [] => .nil
  | n :: ns => .cons (.int n) (RepL.ofInts ns)
end

/-! ### slots -/
inductive SV where
  | un | d (x : D)
  /-- a list of the def's own (io: handed in by the caller, to be changed), what it holds -/
  | ol (io : Bool) (xs : List D)
  | op (io : Bool) (P : List D → Prop)
  | ok (io : Bool) (ks : List Key) (xs : List D)
  | ot (io : Bool) (ks : List (List Key)) (xs : List D)
  /-- a caught error at a: of the class nm, it keeps x -/
  | ex (a : Addr) (cls : Value) (dx : Option Addr) (nm : Str) (x : D)
def SV.own : SV → Bool
  | .un => false | .d _ => false | .ex _ _ _ _ _ => false | _ => true
def SV.io : SV → Bool
  | .un => false | .d _ => false | .ol b _ => b | .op b _ => b | .ok b _ _ => b | .ot b _ _ => b | .ex _ _ _ _ _ => false
def SV.setIo (b : Bool) : SV → SV
  | .un => .un | .d x => .d x | .ol _ xs => .ol b xs | .op _ P => .op b P | .ok _ ks xs => .ok b ks xs | .ot _ ks xs => .ot b ks xs | .ex a cls dx nm x => .ex a cls dx nm x
theorem SV.own_of_io {s : SV} (h : s.io = true) : s.own = true := by cases s <;> first | rfl | cases h
theorem SV.own_setIo {s : SV} {b : Bool} : (s.setIo b).own = s.own := by cases s <;> rfl
theorem SV.io_setIo {s : SV} {b : Bool} (h : s.own = true) : (s.setIo b).io = b := by cases s <;> first | rfl | cases h

/-- what stands at an own object's place -/
def SV.at (K : PySem.W.Frag) (F H : Hp) (p : Addr) : SV → Prop
  | .un => False
  | .d _ => False
  | .ex _ _ _ _ _ => False
  | .ol _ xs => ∃ vs, H p = some (.lst vs) ∧ RepL K F vs xs
  | .op _ P => ∃ vs xs, H p = some (.lst vs) ∧ RepL K F vs xs ∧ P xs
  | .ok _ ks xs => ∃ kvs : List (Key × V), H p = some (.dK kvs) ∧ kvs.map (·.1) = ks ∧ RepL K F (kvs.map (·.2)) xs
  | .ot _ ks xs => ∃ kvs : List (List Key × V), H p = some (.dT kvs) ∧ kvs.map (·.1) = ks ∧ RepL K F (kvs.map (·.2)) xs
theorem SV.at_setIo {K : PySem.W.Frag} {F H : Hp} {p : Addr} {s : SV} {b : Bool} : (s.setIo b).at K F H p ↔ s.at K F H p := by cases s <;> exact Iff.rfl
theorem SV.at_some {K : PySem.W.Frag} {F H : Hp} {p : Addr} {s : SV} (h : s.at K F H p) : ∃ o, H p = some o ∧ Mut (some o) := by
  cases s with
  | un => cases h
  | d x => cases h
  | ex _ _ _ _ _ => cases h
  | ol b xs => obtain ⟨vs, e, _⟩ := h; exact ⟨_, e, trivial⟩
  | op b P => obtain ⟨vs, xs, e, _⟩ := h; exact ⟨_, e, trivial⟩
  | ok b ks xs => obtain ⟨vs, e, _⟩ := h; exact ⟨_, e, trivial⟩
  | ot b ks xs => obtain ⟨vs, e, _⟩ := h; exact ⟨_, e, trivial⟩
theorem SV.at_own {K : PySem.W.Frag} {F H : Hp} {p : Addr} {s : SV} (h : s.at K F H p) : s.own = true := by
  cases s <;> first | rfl | cases h
theorem SV.at_mono {K : PySem.W.Frag} {F F' H H' : Hp} {p : Addr} {s : SV} (e : Ext F F') (hp : ∀ o, H p = some o → H' p = some o) (h : s.at K F H p) : s.at K F' H' p := by
  cases s with
  | un => cases h
  | d x => cases h
  | ex _ _ _ _ _ => cases h
  | ol b xs => obtain ⟨vs, q, r⟩ := h; exact ⟨vs, hp _ q, r.mono e⟩
  | op b P => obtain ⟨vs, xs, q, r, z⟩ := h; exact ⟨vs, xs, hp _ q, r.mono e, z⟩
  | ok b ks xs => obtain ⟨vs, q, k, r⟩ := h; exact ⟨vs, hp _ q, k, r.mono e⟩
  | ot b ks xs => obtain ⟨vs, q, k, r⟩ := h; exact ⟨vs, hp _ q, k, r.mono e⟩

/-- where a def stands: what is known as frozen, the heap, the own objects handed in, all at its entry -/
structure Cc where
  K : PySem.W.Frag
  F0 : Hp
  H0 : Hp
  io : Nat → Addr → Prop
  iou : ∀ i a b, io i a → io i b → a = b

/-- the one attribute of an error class of the program -/
def attrOf (nm : Str) : Str :=
  if nm = "InvalidRoom" ∨ nm = "InvalidOrders" ∨ nm = "InvalidLine" ∨ nm = "InvalidText" then "place"
  else if nm = "InvalidSpan" ∨ nm = "Overfull" then "span"
  else if nm = "InvalidNumber" then "number"
  else if nm = "InvalidName" ∨ nm = "Unknown" then "name" else "what"
/-- an error of the class nm that keeps d, frozen -/
def ExcF (K : PySem.W.Frag) (F : Hp) (nm : Str) (d : D) (cls : Value) (dx : Option Addr) : Prop :=
  cls = .ref (He.ga K nm) ∧ ∃ a v, dx = some a ∧ F a = some (.xd [(attrOf nm, v)]) ∧ Rep K F v d
theorem ExcF.mono {K : PySem.W.Frag} {F F' : Hp} {nm : Str} {d : D} {cls : Value} {dx : Option Addr} (e : Ext F F') (h : ExcF K F nm d cls dx) : ExcF K F' nm d cls dx := by
  obtain ⟨h1, a, v, h2, h3, h4⟩ := h
  exact ⟨h1, a, v, h2, e _ _ h3, h4.mono e⟩
def OwnP (C : Cc) (F : Hp) (i : Nat) (io : Bool) (p : Addr) : Prop := F p = none ∧ (if io = true then C.io i p else C.H0 p = none)
def Slot (C : Cc) (F H : Hp) (i : Nat) (o : Option V) (sv : SV) : Prop :=
  match sv with
  | .un => True
  | .d x => ∃ v, o = some v ∧ Rep C.K F v x
  | .ex a cls dx nm x => o = some (.ref a) ∧ ExcF C.K F nm x cls dx
  | sv => ∃ p, o = some (.ref p) ∧ OwnP C F i sv.io p ∧ sv.at C.K F H p
theorem slot_own {C : Cc} {F H : Hp} {i : Nat} {o : Option V} {sv : SV} (h : sv.own = true) : Slot C F H i o sv ↔ ∃ p, o = some (.ref p) ∧ OwnP C F i sv.io p ∧ sv.at C.K F H p := by
  cases sv <;> first | exact Iff.rfl | exact absurd h Bool.false_ne_true

structure I (C : Cc) (F H : Hp) (σ : St) (ρ : List SV) : Prop where
  f0 : Ext C.F0 F
  fh : Ext F H
  fr : ∀ a o, F a = some o → (∃ o', C.F0 a = some o') ∨ C.H0 a = none
  kp : ∀ a o, C.H0 a = some o → (∀ i, ¬ C.io i a) → H a = some o
  len : σ.length = ρ.length
  sl : ∀ i sv, ρ[i]? = some sv → Slot C F H i (σ.getD i none) sv
  ap : ∀ i j a sv sv', ρ[i]? = some sv → ρ[j]? = some sv' → sv.own = true → sv'.own = true → σ.getD i none = some (.ref a) → σ.getD j none = some (.ref a) → i = j
  ios : ∀ i a, C.io i a → ∃ sv, ρ[i]? = some sv ∧ sv.io = true

/-- the heap grows, some of the new is frozen -/
structure Grow (F H F' H' : Hp) : Prop where
  ff : Ext F F'
  hh : Ext H H'
  fh : Ext F' H'
  fr : ∀ a o, F' a = some o → (∃ o', F a = some o') ∨ H a = none
theorem Grow.refl {F H : Hp} (e : Ext F H) : Grow F H F H := ⟨.refl _, .refl _, e, fun a o h => .inl ⟨o, h⟩⟩
theorem Grow.trans {F H F1 H1 F2 H2 : Hp} (a : Grow F H F1 H1) (b : Grow F1 H1 F2 H2) : Grow F H F2 H2 :=
  ⟨a.ff.trans b.ff, a.hh.trans b.hh, b.fh, fun x o h => by
    rcases b.fr x o h with ⟨o', e⟩ | e
    · exact a.fr x o' e
    · refine .inr ?_
      cases q : H x with
      | none => rfl
      | some u => rw [a.hh x u q] at e; cases e⟩
/-- a new object, frozen -/
theorem Grow.new {F H : Hp} {p : Addr} {o : HO} (e : Ext F H) (h : H p = none) : Grow F H (upd F p o) (upd H p o) := by
  have hf : F p = none := by
    cases q : F p with
    | none => rfl
    | some u => rw [e p u q] at h; cases h
  refine ⟨.new hf, .new h, fun a u q => ?_, fun a u q => ?_⟩
  · by_cases z : a = p
    · subst z; rw [upd_same] at q ⊢; exact q
    · rw [upd_ne z] at q ⊢; exact e a u q
  · by_cases z : a = p
    · subst z; exact .inr h
    · rw [upd_ne z] at q; exact .inl ⟨u, q⟩
/-- a new object, not frozen -/
theorem Grow.fresh {F H : Hp} {p : Addr} {o : HO} (e : Ext F H) (h : H p = none) : Grow F H F (upd H p o) :=
  ⟨.refl _, .new h, e.trans (.new h), fun a u q => .inl ⟨u, q⟩⟩

theorem Ext.none {F H : Hp} (e : Ext F H) {p : Addr} (h : H p = none) : F p = Option.none := by
  cases q : F p with
  | none => rfl
  | some u => rw [e p u q] at h; cases h

section
variable {C : Cc} {F H F' H' : Hp} {σ : St} {ρ : List SV}
theorem I.slo (J : I C F H σ ρ) {i : Nat} {sv : SV} (e : ρ[i]? = some sv) (h : sv.own = true) : ∃ p, σ.getD i none = some (.ref p) ∧ OwnP C F i sv.io p ∧ sv.at C.K F H p := (slot_own h).mp (J.sl i sv e)
theorem I.ioat (J : I C F H σ ρ) {i : Nat} {a : Addr} (h : C.io i a) : σ.getD i none = some (.ref a) ∧ ∃ sv, ρ[i]? = some sv ∧ sv.io = true ∧ sv.at C.K F H a := by
  obtain ⟨sv, e, hi⟩ := J.ios i a h
  obtain ⟨p, e1, ⟨e2, e3⟩, e4⟩ := J.slo e (SV.own_of_io hi)
  rw [hi, if_pos rfl] at e3
  have : p = a := C.iou i p a e3 h
  subst this
  exact ⟨e1, sv, e, hi, e4⟩
/-- what is not in the heap was not at the entry -/
theorem I.new (J : I C F H σ ρ) {a : Addr} (h : H a = none) : C.H0 a = none := by
  cases q : C.H0 a with
  | none => rfl
  | some o =>
    by_cases z : ∃ i, C.io i a
    · obtain ⟨i, hi⟩ := z
      obtain ⟨_, sv, _, _, e⟩ := J.ioat hi
      obtain ⟨o', e', _⟩ := SV.at_some e
      rw [h] at e'; cases e'
    · rw [J.kp a o q fun i hi => z ⟨i, hi⟩] at h; cases h
theorem I.grow (J : I C F H σ ρ) (g : Grow F H F' H') : I C F' H' σ ρ := by
  refine ⟨J.f0.trans g.ff, g.fh, fun a o e => ?_, fun a o e n => g.hh a o (J.kp a o e n), J.len, fun i sv e => ?_, J.ap, J.ios⟩
  · rcases g.fr a o e with ⟨o', e'⟩ | e'
    · exact J.fr a o' e'
    · exact .inr (J.new e')
  · have s := J.sl i sv e
    by_cases ho : sv.own = true
    · obtain ⟨p, e1, ⟨e2, e3⟩, e4⟩ := (slot_own ho).mp s
      refine (slot_own ho).mpr ⟨p, e1, ⟨?_, e3⟩, SV.at_mono g.ff (fun o q => g.hh p o q) e4⟩
      cases q : F' p with
      | none => rfl
      | some o =>
        rcases g.fr p o q with ⟨o', z⟩ | z
        · rw [e2] at z; cases z
        · obtain ⟨o', z', _⟩ := SV.at_some e4
          rw [z] at z'; cases z'
    · cases sv with
      | un => trivial
      | d x => obtain ⟨v, e1, r⟩ := s; exact ⟨v, e1, r.mono g.ff⟩
      | ex _ _ _ _ _ => exact ⟨s.1, s.2.mono g.ff⟩
      | _ => exact absurd rfl ho
/-- another entry for the same state -/
theorem I.rebase (J : I C F H σ ρ) : I { C with F0 := F } F H σ ρ := ⟨.refl _, J.fh, fun a o e => .inl ⟨o, e⟩, J.kp, J.len, J.sl, J.ap, J.ios⟩
theorem I.unbase {F1 : Hp} (J : I { C with F0 := F } F1 H' σ ρ) (J0 : ∀ a o, F a = some o → (∃ o', C.F0 a = some o') ∨ C.H0 a = none) (e : Ext C.F0 F) : I C F1 H' σ ρ ∧ Ext F F1 :=
  ⟨⟨e.trans J.f0, J.fh, fun a o q => by
    rcases J.fr a o q with ⟨o', z⟩ | z
    · exact J0 a o' z
    · exact .inr z, J.kp, J.len, J.sl, J.ap, J.ios⟩, J.f0⟩

/-- an own object that no slot holds as yet -/
structure Tmp (C : Cc) (F H : Hp) (σ : St) (ρ : List SV) (p : Addr) : Prop where
  nf : F p = none
  n0 : C.H0 p = none
  ns : ∀ i sv, ρ[i]? = some sv → sv.own = true → σ.getD i none ≠ some (.ref p)
theorem I.tmp (J : I C F H σ ρ) {p : Addr} (h : H p = none) : Tmp C F (upd H p o) σ ρ p :=
  ⟨J.fh.none h, J.new h, fun i sv e ho z => by
    obtain ⟨q, e1, _, e4⟩ := J.slo e ho
    rw [e1] at z
    cases z
    obtain ⟨o', z', _⟩ := SV.at_some e4
    rw [h] at z'; cases z'⟩
/-- an own object that no slot holds is frozen -/
theorem I.freeze (J : I C F H σ ρ) {p : Addr} {o : HO} (T : Tmp C F H σ ρ p) (h : H p = some o) : I C (upd F p o) H σ ρ ∧ Ext F (upd F p o) := by
  refine ⟨⟨J.f0.trans (.new T.nf), fun a u e => ?_, fun a u e => ?_, J.kp, J.len, fun i sv e => ?_, J.ap, J.ios⟩, .new T.nf⟩
  · by_cases z : a = p
    · subst z; rw [upd_same] at e; cases e; exact h
    · rw [upd_ne z] at e; exact J.fh a u e
  · by_cases z : a = p
    · subst z; exact .inr T.n0
    · rw [upd_ne z] at e; exact J.fr a u e
  · have s := J.sl i sv e
    by_cases ho : sv.own = true
    · obtain ⟨q, e1, ⟨e2, e3⟩, e4⟩ := (slot_own ho).mp s
      have hq : q ≠ p := fun z => T.ns i sv e ho (by rw [e1, z])
      exact (slot_own ho).mpr ⟨q, e1, ⟨by rw [upd_ne hq]; exact e2, e3⟩, SV.at_mono (.new T.nf) (fun o q => q) e4⟩
    · cases sv with
      | un => trivial
      | d x => obtain ⟨v, e1, r⟩ := s; exact ⟨v, e1, r.mono (.new T.nf)⟩
      | ex _ _ _ _ _ => exact ⟨s.1, s.2.mono (.new T.nf)⟩
      | _ => exact absurd rfl ho

/-! ### weakening -/
inductive Weak : SV → SV → Prop
  | refl (s : SV) : Weak s s
  | un {s : SV} : s.io = false → Weak s .un
  | op {io : Bool} {xs : List D} {P : List D → Prop} : P xs → Weak (.ol io xs) (.op io P)
  | opp {io : Bool} {P P' : List D → Prop} : (∀ xs, P xs → P' xs) → Weak (.op io P) (.op io P')
inductive Weaks : List SV → List SV → Prop
  | nil : Weaks [] []
  | cons {s t : SV} {ss ts : List SV} : Weak s t → Weaks ss ts → Weaks (s :: ss) (t :: ts)
theorem Weaks.refl : ∀ ss : List SV, Weaks ss ss
  | [] => .nil
  | s :: ss => .cons (.refl s) (Weaks.refl ss)
theorem Weaks.length : ∀ {ss ts : List SV}, Weaks ss ts → ss.length = ts.length
  | _, _, .nil => rfl
  | _, _, .cons _ r => congrArg (· + 1) (Weaks.length r)
theorem Weaks.get : ∀ {ss ts : List SV} {i : Nat} {t : SV}, Weaks ss ts → ts[i]? = some t → ∃ s, ss[i]? = some s ∧ Weak s t
  | _, _, _, _, .nil, e => by simp at e
  | _, _, 0, _, .cons h _, e => by simp at e; subst e; exact ⟨_, rfl, h⟩
  | _, _, i + 1, _, .cons _ r, e => by
    obtain ⟨v, h1, h2⟩ := Weaks.get (i := i) r (by simpa using e)
    exact ⟨v, by simpa using h1, h2⟩
theorem Weaks.getS : ∀ {ss ts : List SV} {i : Nat} {s : SV}, Weaks ss ts → ss[i]? = some s → ∃ t, ts[i]? = some t ∧ Weak s t
  | _, _, _, _, .nil, e => by simp at e
  | _, _, 0, _, .cons h _, e => by simp at e; subst e; exact ⟨_, rfl, h⟩
  | _, _, i + 1, _, .cons _ r, e => by
    obtain ⟨v, h1, h2⟩ := Weaks.getS (i := i) r (by simpa using e)
    exact ⟨v, by simpa using h1, h2⟩
theorem Weak.io_eq {s t : SV} (h : Weak s t) : s.io = t.io := by
  cases h with
  | refl => rfl
  | un e => rw [e]; rfl
  | op => rfl
  | opp => rfl
theorem Weak.own_of {s t : SV} (h : Weak s t) (ho : t.own = true) : s.own = true := by
  cases h with
  | refl => exact ho
  | un e => cases ho
  | op => rfl
  | opp => rfl
theorem Weak.at {K : PySem.W.Frag} {F H : Hp} {p : Addr} {s t : SV} (h : Weak s t) (ho : t.own = true) (a : s.at K F H p) : t.at K F H p := by
  cases h with
  | refl => exact a
  | un e => cases ho
  | op z => obtain ⟨vs, e, r⟩ := a; exact ⟨vs, _, e, r, z⟩
  | opp z => obtain ⟨vs, xs, e, r, q⟩ := a; exact ⟨vs, xs, e, r, z xs q⟩
theorem Weak.trans {s t u : SV} (a : Weak s t) (b : Weak t u) : Weak s u := by
  cases b with
  | refl => exact a
  | un e => exact .un (a.io_eq.trans e)
  | op z => cases a with
    | refl => exact .op z
  | opp z => cases a with
    | refl => exact .opp z
    | op y => exact .op (z _ y)
    | opp y => exact .opp fun xs q => z _ (y _ q)
theorem Weaks.trans : ∀ {a b c : List SV}, Weaks a b → Weaks b c → Weaks a c
  | _, _, _, .nil, .nil => .nil
  | _, _, _, .cons h r, .cons h' r' => .cons (h.trans h') (r.trans r')
theorem I.weak {ρ' : List SV} (J : I C F H σ ρ) (w : Weaks ρ ρ') : I C F H σ ρ' := by
  refine ⟨J.f0, J.fh, J.fr, J.kp, J.len.trans w.length, fun i sv e => ?_, fun i j a sv sv' e1 e2 o1 o2 => ?_, fun i a h => ?_⟩
  · obtain ⟨s, e', h⟩ := w.get e
    have q := J.sl i s e'
    by_cases ho : sv.own = true
    · obtain ⟨p, e1, e2, e3⟩ := (slot_own (h.own_of ho)).mp q
      exact (slot_own ho).mpr ⟨p, e1, by rw [← h.io_eq]; exact e2, h.at ho e3⟩
    · cases sv with
      | un => trivial
      | d x => cases h with
        | refl => exact q
      | ex _ _ _ _ _ => cases h with
        | refl => exact q
      | _ => exact absurd rfl ho
  · obtain ⟨s, e1', h1⟩ := w.get e1
    obtain ⟨s', e2', h2⟩ := w.get e2
    exact J.ap i j a s s' e1' e2' (h1.own_of o1) (h2.own_of o2)
  · obtain ⟨sv, e, q⟩ := J.ios i a h
    obtain ⟨t, e', z⟩ := w.getS e
    exact ⟨t, e', by rw [← z.io_eq]; exact q⟩

/-! ### stores -/
theorem getD_set {α : Type} {l : List α} {i j : Nat} {x d : α} (h : i < l.length) : (l.set i x).getD j d = if i = j then x else l.getD j d := by
  simp only [List.getD_eq_getElem?_getD, List.getElem?_set]
  split
  · rename_i e; subst e; simp [h]
  · rfl
/-- a slot that is not handed in gets data -/
theorem I.set (J : I C F H σ ρ) {i : Nat} {v : V} {x : D} {s0 : SV} (hi : ρ[i]? = some s0) (ni : s0.io = false) (r : Rep C.K F v x) : I C F H (σ.set i (some v)) (ρ.set i (.d x)) := by
  have hl : i < ρ.length := (List.getElem?_eq_some_iff.mp hi).1
  have hs : i < σ.length := by rw [J.len]; exact hl
  refine ⟨J.f0, J.fh, J.fr, J.kp, by simpa using J.len, fun j sv e => ?_, fun j k a sv sv' e1 e2 o1 o2 q1 q2 => ?_, fun j a h => ?_⟩
  · rw [getD_set hs]
    by_cases z : i = j
    · subst z
      rw [List.getElem?_set_self hl] at e
      cases e
      rw [if_pos rfl]
      exact ⟨v, rfl, r⟩
    · rw [List.getElem?_set_ne z] at e
      rw [if_neg z]
      exact J.sl j sv e
  · have n1 : i ≠ j := fun z => by subst z; rw [List.getElem?_set_self hl] at e1; cases e1; cases o1
    have n2 : i ≠ k := fun z => by subst z; rw [List.getElem?_set_self hl] at e2; cases e2; cases o2
    rw [List.getElem?_set_ne n1] at e1
    rw [List.getElem?_set_ne n2] at e2
    rw [getD_set hs, if_neg n1] at q1
    rw [getD_set hs, if_neg n2] at q2
    exact J.ap j k a sv sv' e1 e2 o1 o2 q1 q2
  · obtain ⟨sv, e, q⟩ := J.ios j a h
    have n1 : i ≠ j := fun z => by subst z; rw [hi] at e; cases e; rw [ni] at q; cases q
    exact ⟨sv, by rw [List.getElem?_set_ne n1]; exact e, q⟩
/-- .. gets an own object -/
theorem I.setO (J : I C F H σ ρ) {i : Nat} {p : Addr} {s0 sv0 : SV} (hi : ρ[i]? = some s0) (ni : s0.io = false) (T : Tmp C F H σ ρ p) (hio : sv0.io = false) (r : sv0.at C.K F H p) : I C F H (σ.set i (some (.ref p))) (ρ.set i sv0) := by
  have hl : i < ρ.length := (List.getElem?_eq_some_iff.mp hi).1
  have hs : i < σ.length := by rw [J.len]; exact hl
  have ho := SV.at_own r
  refine ⟨J.f0, J.fh, J.fr, J.kp, by simpa using J.len, fun j sv e => ?_, fun j k a sv sv' e1 e2 o1 o2 q1 q2 => ?_, fun j a h => ?_⟩
  · rw [getD_set hs]
    by_cases z : i = j
    · subst z
      rw [List.getElem?_set_self hl] at e
      cases e
      rw [if_pos rfl]
      exact (slot_own ho).mpr ⟨p, rfl, ⟨T.nf, by rw [hio, if_neg Bool.false_ne_true]; exact T.n0⟩, r⟩
    · rw [List.getElem?_set_ne z] at e
      rw [if_neg z]
      exact J.sl j sv e
  · rw [getD_set hs] at q1 q2
    by_cases z1 : i = j
    · by_cases z2 : i = k
      · rw [← z1, ← z2]
      · rw [if_pos z1] at q1
        rw [if_neg z2] at q2
        rw [List.getElem?_set_ne z2] at e2
        cases q1
        exact absurd q2 (T.ns k sv' e2 o2)
    · by_cases z2 : i = k
      · rw [if_neg z1] at q1
        rw [if_pos z2] at q2
        rw [List.getElem?_set_ne z1] at e1
        cases q2
        exact absurd q1 (T.ns j sv e1 o1)
      · rw [if_neg z1] at q1
        rw [if_neg z2] at q2
        rw [List.getElem?_set_ne z1] at e1
        rw [List.getElem?_set_ne z2] at e2
        exact J.ap j k a sv sv' e1 e2 o1 o2 q1 q2
  · obtain ⟨sv, e, q⟩ := J.ios j a h
    have n1 : i ≠ j := fun z => by subst z; rw [hi] at e; cases e; rw [ni] at q; cases q
    exact ⟨sv, by rw [List.getElem?_set_ne n1]; exact e, q⟩
/-- an own object changes -/
theorem I.write (J : I C F H σ ρ) {i : Nat} {p : Addr} {s0 sv0 : SV} {o : HO} (hi : ρ[i]? = some s0) (ho : s0.own = true) (hp : σ.getD i none = some (.ref p)) (hio : sv0.io = s0.io) (r : sv0.at C.K F (upd H p o) p) : I C F (upd H p o) σ (ρ.set i sv0) := by
  have hl : i < ρ.length := (List.getElem?_eq_some_iff.mp hi).1
  have hs : i < σ.length := by rw [J.len]; exact hl
  have ho' := SV.at_own r
  obtain ⟨p', ep, ⟨nf, nio⟩, at0⟩ := J.slo hi ho
  rw [hp] at ep; cases ep
  refine ⟨J.f0, fun a u e => ?_, J.fr, fun a u e n => ?_, by simpa using J.len, fun j sv e => ?_, fun j k a sv sv' e1 e2 o1 o2 q1 q2 => ?_, fun j a h => ?_⟩
  · have : a ≠ p := fun z => by subst z; rw [nf] at e; cases e
    rw [upd_ne this]; exact J.fh a u e
  · have : a ≠ p := fun z => by
      subst z
      by_cases q : s0.io = true
      · rw [if_pos q] at nio; exact n _ nio
      · rw [if_neg q] at nio; rw [nio] at e; cases e
    rw [upd_ne this]; exact J.kp a u e n
  · by_cases z : i = j
    · subst z
      rw [List.getElem?_set_self hl] at e
      cases e
      exact (slot_own ho').mpr ⟨p, hp, ⟨nf, by rw [hio]; exact nio⟩, r⟩
    · rw [List.getElem?_set_ne z] at e
      have q := J.sl j sv e
      by_cases hj : sv.own = true
      · obtain ⟨p2, e1, e2, e3⟩ := (slot_own hj).mp q
        have np : p2 ≠ p := fun y => z (J.ap i j p s0 sv hi e ho hj hp (by rw [← y]; exact e1))
        exact (slot_own hj).mpr ⟨p2, e1, e2, SV.at_mono (.refl F) (fun u w => by rw [upd_ne np]; exact w) e3⟩
      · cases sv with
        | un => trivial
        | d x => exact q
        | ex _ _ _ _ _ => exact q
        | _ => exact absurd rfl hj
  · have f : ∀ (k : Nat) (sv : SV), (ρ.set i sv0)[k]? = some sv → sv.own = true → ∃ sv1, ρ[k]? = some sv1 ∧ sv1.own = true := fun k sv e o => by
      by_cases z : i = k
      · subst z; exact ⟨s0, hi, ho⟩
      · rw [List.getElem?_set_ne z] at e; exact ⟨sv, e, o⟩
    obtain ⟨u1, f1, g1⟩ := f j sv e1 o1
    obtain ⟨u2, f2, g2⟩ := f k sv' e2 o2
    exact J.ap j k a u1 u2 f1 f2 g1 g2 q1 q2
  · obtain ⟨sv, e, q⟩ := J.ios j a h
    by_cases z : i = j
    · subst z
      rw [hi] at e; cases e
      exact ⟨sv0, List.getElem?_set_self hl, hio.trans q⟩
    · exact ⟨sv, by rw [List.getElem?_set_ne z]; exact e, q⟩
/-- an own list becomes data for good -/
theorem I.still (J : I C F H σ ρ) {i : Nat} {xs : List D} (hi : ρ[i]? = some (.ol false xs)) : ∃ F', I C F' H σ (ρ.set i (.d (.lst xs))) ∧ Ext F F' := by
  have hl : i < ρ.length := (List.getElem?_eq_some_iff.mp hi).1
  have hs : i < σ.length := by rw [J.len]; exact hl
  obtain ⟨p, ep, ⟨nf, nio⟩, vs, at0, r⟩ := J.slo hi rfl
  have T : Tmp C F H σ (ρ.set i .un) p := ⟨nf, nio, fun j sv e o z => by
    by_cases q : i = j
    · subst q; rw [List.getElem?_set_self hl] at e; cases e; cases o
    · rw [List.getElem?_set_ne q] at e
      exact q (J.ap i j p _ sv hi e rfl o ep z)⟩
  have W : Weaks ρ (ρ.set i .un) := by
    clear T ep hs nf nio at0 r J
    revert i
    induction ρ with
    | nil => intro i hi hl; simp at hl
    | cons a ρ ih =>
      intro i hi hl
      cases i with
      | zero => simp at hi; subst hi; exact .cons (.un rfl) (.refl _)
      | succ i => exact .cons (.refl _) (ih (by simpa using hi) (by simpa using hl))
  obtain ⟨J2, e2⟩ := (J.weak W).freeze T at0
  refine ⟨_, ?_, e2⟩
  have J3 := J2.set (i := i) (v := .ref p) (x := .lst xs) (s0 := .un) (by rw [List.getElem?_set_self hl]) rfl (.lst upd_same (r.mono e2))
  have e3 : σ.set i (some (.ref p)) = σ := by
    apply List.ext_getElem?
    intro j
    rw [List.getElem?_set]
    split
    · rename_i z; subst z
      rw [List.getD_eq_getElem?_getD, List.getElem?_eq_getElem hs] at ep
      rw [List.getElem?_eq_getElem hs]
      exact congrArg some ep.symm
    · rfl
  rw [e3, List.set_set] at J3
  exact J3
/-- a slot's value, known -/
theorem I.val (J : I C F H σ ρ) {i : Nat} {x : D} (e : ρ[i]? = some (.d x)) : ∃ v, σ[i]? = some (some v) ∧ Rep C.K F v x := by
  obtain ⟨v, e1, r⟩ := J.sl i _ e
  have hl : i < ρ.length := (List.getElem?_eq_some_iff.mp e).1
  have hs : i < σ.length := by rw [J.len]; exact hl
  refine ⟨v, ?_, r⟩
  rw [List.getD_eq_getElem?_getD, List.getElem?_eq_getElem hs] at e1
  rw [List.getElem?_eq_getElem hs]
  exact congrArg some e1
theorem I.ref (J : I C F H σ ρ) {i : Nat} {sv : SV} (e : ρ[i]? = some sv) (ho : sv.own = true) : ∃ p, σ[i]? = some (some (.ref p)) ∧ σ.getD i none = some (.ref p) ∧ F p = none ∧ sv.at C.K F H p := by
  obtain ⟨p, e1, ⟨e2, _⟩, e4⟩ := J.slo e ho
  have hl : i < ρ.length := (List.getElem?_eq_some_iff.mp e).1
  have hs : i < σ.length := by rw [J.len]; exact hl
  refine ⟨p, ?_, e1, e2, e4⟩
  rw [List.getD_eq_getElem?_getD, List.getElem?_eq_getElem hs] at e1
  rw [List.getElem?_eq_getElem hs]
  exact congrArg some e1
end
end DL
namespace DL
open PySem PySem.Spec PyProof.Rows L2

/-- an error of the class nm that keeps d -/
def ExcRep (K : PySem.W.Frag) (F H : Hp) (nm : Str) (d : D) (cls : Value) (dx : Option Addr) : Prop :=
  cls = .ref (He.ga K nm) ∧ ∃ a v, dx = some a ∧ H a = some (.xd [(attrOf nm, v)]) ∧ F a = some (.xd [(attrOf nm, v)]) ∧ Rep K F v d

abbrev XQ := Str → D → List SV → Prop
abbrev DEv := List SV → (D → List SV → Prop) → XQ → Prop
abbrev DTv := List SV → (Bool → List SV → Prop) → XQ → Prop
abbrev DOv := List SV → (List D → List SV → Prop) → XQ → Prop
/-- an argument: data, or an own object by its slot -/
inductive AV where
  | d (x : D) | sl (i : Nat)
abbrev DAv := List SV → (List AV → List SV → Prop) → XQ → Prop

def ArgRep (K : PySem.W.Frag) (F : Hp) (σ : L2.St) (v : V) : AV → Prop
  | .d x => Rep K F v x
  | .sl i => σ[i]? = some (some v)
inductive ArgsRep (K : PySem.W.Frag) (F : Hp) (σ : L2.St) : List V → List AV → Prop
  | nil : ArgsRep K F σ [] []
  | cons {v : V} {a : AV} {vs : List V} {as : List AV} : ArgRep K F σ v a → ArgsRep K F σ vs as → ArgsRep K F σ (v :: vs) (a :: as)

/-- what a wish about errors bears -/
def WOk (W : WX) (C : Cc) (F : Hp) (σ : L2.St) (Ξ : XQ) : Prop := ∀ nm d ρ' cls dx F' H', I C F' H' σ ρ' → Ext F F' → ExcRep C.K F' H' nm d cls dx → Ξ nm d ρ' → W cls dx σ H'
theorem WOk.ext {W : WX} {C : Cc} {F F' : Hp} {σ : L2.St} {Ξ : XQ} (h : WOk W C F σ Ξ) (e : Ext F F') : WOk W C F' σ Ξ := fun nm d ρ' cls dx F2 H2 J e2 x q => h nm d ρ' cls dx F2 H2 J (e.trans e2) x q

def SimE (K : PySem.W.Frag) (W : WX) (te : TE) (de : DEv) : Prop := ∀ (C : Cc) (F H : Hp) (σ : L2.St) (ρ : List SV) (Φ : D → List SV → Prop) (Ξ : XQ) (Q : VK), C.K = K → I C F H σ ρ → de ρ Φ Ξ →
  (∀ v d ρ' F' H', I C F' H' σ ρ' → Ext F F' → Rep K F' v d → Φ d ρ' → Q v H') → WOk W C F σ Ξ → te σ H Q
def SimT (K : PySem.W.Frag) (W : WX) (tt : TT) (dt : DTv) : Prop := ∀ (C : Cc) (F H : Hp) (σ : L2.St) (ρ : List SV) (Φ : Bool → List SV → Prop) (Ξ : XQ) (Q : Bool → Hp → Prop), C.K = K → I C F H σ ρ → dt ρ Φ Ξ →
  (∀ b ρ' F' H', I C F' H' σ ρ' → Ext F F' → Φ b ρ' → Q b H') → WOk W C F σ Ξ → tt σ H Q
def SimA (K : PySem.W.Frag) (W : WX) (ta : TA) (da : DAv) : Prop := ∀ (C : Cc) (F H : Hp) (σ : L2.St) (ρ : List SV) (Φ : List AV → List SV → Prop) (Ξ : XQ) (Q : List V → Hp → Prop), C.K = K → I C F H σ ρ → da ρ Φ Ξ →
  (∀ vs as ρ' F' H', I C F' H' σ ρ' → Ext F F' → ArgsRep K F' σ vs as → Φ as ρ' → Q vs H') → WOk W C F σ Ξ → ta σ H Q
/-- a new list of one's own -/
def SimO (K : PySem.W.Frag) (W : WX) (te : TE) (dv : DOv) : Prop := ∀ (C : Cc) (F H : Hp) (σ : L2.St) (ρ : List SV) (Φ : List D → List SV → Prop) (Ξ : XQ) (Q : VK), C.K = K → I C F H σ ρ → dv ρ Φ Ξ →
  (∀ p vs xs ρ' F' H', I C F' H' σ ρ' → Ext F F' → Tmp C F' H' σ ρ' p → H' p = some (.lst vs) → RepL K F' vs xs → Φ xs ρ' → Q (.ref p) H') → WOk W C F σ Ξ → te σ H Q

structure DE (X : Cx) (W : WX) (e : Expr) (te : TE) (de : DEv) : Prop where
  pe : PE X e te
  sim : SimE X.K W te de
structure DT (X : Cx) (W : WX) (e : Expr) (tt : TT) (dt : DTv) : Prop where
  pt : PT X e tt
  sim : SimT X.K W tt dt
structure DW (X : Cx) (W : WX) (e : Expr) (tt : TT) (dt : DTv) : Prop where
  pw : PW X e tt
  sim : SimT X.K W tt dt
structure DA (X : Cx) (W : WX) (es : List Expr) (ta : TA) (da : DAv) : Prop where
  pa : PA X es ta
  sim : SimA X.K W ta da
structure DO (X : Cx) (W : WX) (e : Expr) (te : TE) (dv : DOv) : Prop where
  pe : PE X e te
  sim : SimO X.K W te dv

structure DEnds where
  nx : List SV → Prop
  rt : D → List SV → Prop
  bk : List SV → Prop := fun _ => False
  ct : List SV → Prop := fun _ => False
  ex : XQ := fun _ _ _ => False
  /-- a new list is handed out -/
  ro : List D → List SV → Prop := fun _ _ => False
abbrev DSv := DEnds → List SV → Prop
structure EndsOk (W : WX) (C : Cc) (F : Hp) (En : DEnds) (D : Ends) : Prop where
  nx : ∀ σ ρ F' H', I C F' H' σ ρ → Ext F F' → En.nx ρ → D.nx σ H'
  rt : ∀ v d σ ρ F' H', I C F' H' σ ρ → Ext F F' → Rep C.K F' v d → En.rt d ρ → D.rt v H'
  bk : ∀ σ ρ F' H', I C F' H' σ ρ → Ext F F' → En.bk ρ → D.bk σ H'
  ct : ∀ σ ρ F' H', I C F' H' σ ρ → Ext F F' → En.ct ρ → D.ct σ H'
  ex : ∀ σ, WOk W C F σ En.ex
  ro : ∀ p vs xs σ ρ F' H', I C F' H' σ ρ → Ext F F' → Tmp C F' H' σ ρ p → H' p = some (.lst vs) → RepL C.K F' vs xs → En.ro xs ρ → D.rt (.ref p) H'
theorem EndsOk.ext {W : WX} {C : Cc} {F F' : Hp} {En : DEnds} {D : Ends} (h : EndsOk W C F En D) (e : Ext F F') : EndsOk W C F' En D :=
  ⟨fun σ ρ F2 H2 J e2 q => h.nx σ ρ F2 H2 J (e.trans e2) q, fun v d σ ρ F2 H2 J e2 r q => h.rt v d σ ρ F2 H2 J (e.trans e2) r q, fun σ ρ F2 H2 J e2 q => h.bk σ ρ F2 H2 J (e.trans e2) q,
   fun σ ρ F2 H2 J e2 q => h.ct σ ρ F2 H2 J (e.trans e2) q, fun σ => (h.ex σ).ext e, fun p vs xs σ ρ F2 H2 J e2 T hp rl q => h.ro p vs xs σ ρ F2 H2 J (e.trans e2) T hp rl q⟩
def SimS (K : PySem.W.Frag) (W : WX) (ts : TS) (ds : DSv) : Prop := ∀ (C : Cc) (F H : Hp) (σ : L2.St) (ρ : List SV) (En : DEnds) (D : Ends), C.K = K → I C F H σ ρ → ds En ρ → EndsOk W C F En D → ts D σ H
structure DS (X : Cx) (W : WX) (st : Stmt) (ts : TS) (ds : DSv) : Prop where
  ps : PS X st ts
  sim : SimS X.K W ts ds
structure DSs (X : Cx) (W : WX) (st : List Stmt) (ts : TS) (ds : DSv) : Prop where
  ps : PSs X st ts
  sim : SimS X.K W ts ds

section
variable {X : Cx} {W : WX} {K : PySem.W.Frag}

/-! ### names, constants -/
def dVar (i : Nat) : DEv := fun ρ Φ _ => match ρ[i]? with
  | some (.d x) => Φ x ρ
  | _ => False
def dC (x : D) : DEv := fun ρ Φ _ => Φ x ρ
theorem sim_var {i : Nat} : SimE K W (tVar i) (dVar i) := by
  intro C F H σ ρ Φ Ξ Q hK J h k _
  unfold dVar at h
  split at h
  · rename_i x e
    obtain ⟨v, e1, r⟩ := J.val e
    subst hK
    exact ⟨v, e1, k v x ρ F H J (.refl F) r h⟩
  · exact h.elim
theorem sim_c {v : V} {x : D} (r : ∀ F, Rep K F v x) : SimE K W (tC v) (dC x) := fun C F H σ ρ Φ Ξ Q hK J h k _ => k v x ρ F H J (.refl F) (r F) h
theorem de_var (i : Nat) {x : Str} {pos : Pos} (hN : X.N[i]? = some x := by rfl) (hv : Vis X.env.scope x := by first | exact Or.inl rfl | exact Or.inr (Or.inl rfl) | exact Or.inr (Or.inr rfl)) (hd : (x == ("__debug__" : Str)) = false := by decide)
    (hcd : (x == ("__classdict__" : Str)) = false := by decide) : DE X W (.Name x pos) (tVar i) (dVar i) := ⟨pe_var hN hv hd hcd, sim_var⟩
theorem de_int {i j pos} : DE X W (.Constant (.int i) j pos) (tC (.int i)) (dC (.int i)) := ⟨pe_int, sim_c fun _ => .int i⟩
theorem de_bl {b j pos} : DE X W (.Constant (.bool b) j pos) (tC (.bl b)) (dC (.bl b)) := ⟨pe_bl, sim_c fun _ => .bl b⟩
theorem de_non {j pos} : DE X W (.Constant .none j pos) (tC .non) (dC .non) := ⟨pe_non, sim_c fun _ => .non⟩
theorem de_str {x j pos} : DE X W (.Constant (.str x) j pos) (tC (.str x)) (dC (.str x)) := ⟨pe_str, sim_c fun _ => .str x⟩
/-- a number that stands in the module -/
theorem de_gint {x : Str} {i : Int} {pos : Pos} (hg : Gl X x) (hm : ∃ t, X.mg x = some (.int i t)) (hd : (x == ("__debug__" : Str)) = false := by decide) : DE X W (.Name x pos) (tC (.int i)) (dC (.int i)) :=
  ⟨pe_glob hg hm.choose_spec ⟨_, rfl⟩ hd, sim_c fun _ => .int i⟩
theorem de_gstr {x z : Str} {pos : Pos} (hg : Gl X x) (hm : ∃ t, X.mg x = some (.str z t)) (hd : (x == ("__debug__" : Str)) = false := by decide) : DE X W (.Name x pos) (tC (.str z)) (dC (.str z)) :=
  ⟨pe_glob hg hm.choose_spec ⟨_, rfl⟩ hd, sim_c fun _ => .str z⟩
theorem de_ty {x : Str} {n : String} {pos : Pos} (hg : Gl X x) (hm : X.mg x = none) (hv : bootBuiltins x = some (.type n)) (hn : x ≠ "__name__" := by decide) (hd : (x == ("__debug__" : Str)) = false := by decide) : DE X W (.Name x pos) (tC (.ty n)) (dC (.ty n)) :=
  ⟨pe_bltn hg hm hv rfl hn hd, sim_c fun _ => .ty n⟩

/-! ### two-place operations -/
/-- by values: the heap may grow -/
def SimR (K : PySem.W.Frag) (r : R2) (rd : D → D → (D → Prop) → Prop) : Prop := ∀ (F H : Hp) (x y : V) (a b : D) (Φ : D → Prop) (Q : VK), Ext F H → Rep K F x a → Rep K F y b → rd a b Φ →
  (∀ v d F' H', Grow F H F' H' → Rep K F' v d → Φ d → Q v H') → r x y H Q
def dOp (rd : D → D → (D → Prop) → Prop) (da db : DEv) : DEv := fun ρ Φ Ξ => da ρ (fun x ρ1 => db ρ1 (fun y ρ2 => rd x y fun z => Φ z ρ2) Ξ) Ξ
theorem sim_op {r : R2} {rd : D → D → (D → Prop) → Prop} {ta tb : TE} {da db : DEv} (hr : SimR K r rd) (ha : SimE K W ta da) (hb : SimE K W tb db) : SimE K W (tOp r ta tb) (dOp rd da db) := by
  intro C F H σ ρ Φ Ξ Q hK J h k w
  refine ha C F H σ ρ _ Ξ _ hK J h (fun x a ρ1 F1 H1 J1 e1 r1 q1 => ?_) w
  refine hb C F1 H1 σ ρ1 _ Ξ _ hK J1 q1 (fun y b ρ2 F2 H2 J2 e2 r2 q2 => ?_) (w.ext e1)
  exact hr F2 H2 x y a b _ _ J2.fh (r1.mono e2) r2 q2 fun v d F3 H3 g r3 q3 => k v d ρ2 F3 H3 (J2.grow g) (e1.trans (e2.trans g.ff)) r3 q3
/-- the value alone, nothing new -/
theorem Grow.same {F H : Hp} (e : Ext F H) : Grow F H F H := Grow.refl e

/-- a way more -/
theorem OpR.or {f : Value → Value → Sem Value} {r s : R2} (a : OpR X f r) (b : OpR X f s) : OpR X f (fun x y H Q => r x y H Q ∨ s x y H Q) := fun pins z σ H x y v u Q J rx ry h => by
  rcases h with h | h
  · exact a pins z σ H x y v u Q J rx ry h
  · exact b pins z σ H x y v u Q J rx ry h
theorem SimR.or {r s : R2} {rd sd td : D → D → (D → Prop) → Prop} (a : SimR K r rd) (b : SimR K s sd) (h : ∀ x y Φ, td x y Φ → rd x y Φ ∨ sd x y Φ) : SimR K (fun x y H Q => r x y H Q ∨ s x y H Q) td := fun F H x y c d Φ Q e rx ry hd k => by
  rcases h c d Φ hd with z | z
  · exact .inl (a F H x y c d Φ Q e rx ry z k)
  · exact .inr (b F H x y c d Φ Q e rx ry z k)

def dI2 (C : Int → Int → Prop) (g : Int → Int → D) : D → D → (D → Prop) → Prop := fun x y Φ => match x, y with
  | .int i, .int j => C i j ∧ Φ (g i j)
  | _, _ => False
theorem simI {C : Int → Int → Prop} {g : Int → Int → Int} : SimR K (rI C fun i j => .int (g i j)) (dI2 C fun i j => .int (g i j)) := by
  intro F H x y a b Φ Q e rx ry h k
  unfold dI2 at h
  split at h
  · cases rx; cases ry
    exact ⟨_, _, rfl, rfl, h.1, k _ _ F H (.refl e) (.int _) h.2⟩
  · exact h.elim
def dI0 (g : Int → Int → D) : D → D → (D → Prop) → Prop := fun x y Φ => match x, y with
  | .int i, .int j => Φ (g i j)
  | _, _ => False
theorem simI0 {g : Int → Int → Int} : SimR K (rI0 fun i j => .int (g i j)) (dI0 fun i j => .int (g i j)) := by
  intro F H x y a b Φ Q e rx ry h k
  unfold dI0 at h
  split at h
  · cases rx; cases ry
    exact ⟨_, _, rfl, rfl, k _ _ F H (.refl e) (.int _) h⟩
  · exact h.elim
theorem simB0 {g : Int → Int → Bool} : SimR K (rI0 fun i j => .bl (g i j)) (dI0 fun i j => .bl (g i j)) := by
  intro F H x y a b Φ Q e rx ry h k
  unfold dI0 at h
  split at h
  · cases rx; cases ry
    exact ⟨_, _, rfl, rfl, k _ _ F H (.refl e) (.bl _) h⟩
  · exact h.elim

theorem de_bin {a b : Expr} {ta tb : TE} {da db : DEv} {op : Operator} {r : R2} {rd : D → D → (D → Prop) → Prop} {pos : Pos} (ho : OpR X (binaryOp op) r) (hr : SimR X.K r rd) (ha : DE X W a ta da) (hb : DE X W b tb db) : DE X W (.BinOp a op b pos) (tOp r ta tb) (dOp rd da db) :=
  ⟨pe_op ho ha.pe hb.pe, sim_op hr ha.sim hb.sim⟩
theorem de_cmp {a b : Expr} {ta tb : TE} {da db : DEv} {op : CmpOp} {r : R2} {rd : D → D → (D → Prop) → Prop} {pos : Pos} (ho : OpR X (compareOp op) r) (hr : SimR X.K r rd) (ha : DE X W a ta da) (hb : DE X W b tb db) (hm : behindInMarks op b = false) : DE X W (.Compare a [op] [b] pos) (tOp r ta tb) (dOp rd da db) :=
  ⟨pe_cmpR ho ha.pe hb.pe hm, sim_op hr ha.sim hb.sim⟩

/-! ### tests -/
def dTest (de : DEv) : DTv := fun ρ Φ Ξ => de ρ (fun x ρ1 => match x with
  | .bl b => Φ b ρ1
  | _ => False) Ξ
theorem sim_test {te : TE} {de : DEv} (h : SimE K W te de) : SimT K W (tTest te) (dTest de) := by
  intro C F H σ ρ Φ Ξ Q hK J q k w
  refine h C F H σ ρ _ Ξ _ hK J q (fun v d ρ1 F1 H1 J1 e1 r1 q1 => ?_) w
  cases r1 with
  | bl b => exact ⟨b, rfl, k b ρ1 F1 H1 J1 e1 q1⟩
  | _ => exact q1.elim
theorem sim_testB {te : TE} {de : DEv} (h : SimE K W te de) : SimT K W (tB te) (dTest de) := sim_test h
theorem dt_cmp {a b : Expr} {ta tb : TE} {da db : DEv} {op : CmpOp} {r : R2} {rd : D → D → (D → Prop) → Prop} {pos : Pos} (ho : OpR X (compareOp op) r) (hr : SimR X.K r rd) (ha : DE X W a ta da) (hb : DE X W b tb db) (hm : behindInMarks op b = false) : DT X W (.Compare a [op] [b] pos) (tTest (tOp r ta tb)) (dTest (dOp rd da db)) :=
  ⟨pt_cmpR ho ha.pe hb.pe hm, sim_test (sim_op hr ha.sim hb.sim)⟩
theorem dt_val {e : Expr} {te : TE} {de : DEv} (h : DE X W e te de) (he : ∀ whole, isTrue e X.env whole = (do let v ← whole; standAt e.pos; holding [v] (truthy v)) := by intro _; rfl) : DT X W e (tB te) (dTest de) := ⟨pt_val h.pe he, sim_testB h.sim⟩
def dAnd (a b : DTv) : DTv := fun ρ Φ Ξ => a ρ (fun c ρ1 => if c = true then b ρ1 Φ Ξ else Φ false ρ1) Ξ
def dOr (a b : DTv) : DTv := fun ρ Φ Ξ => a ρ (fun c ρ1 => if c = true then Φ true ρ1 else b ρ1 Φ Ξ) Ξ
def dNot (a : DTv) : DTv := fun ρ Φ Ξ => a ρ (fun c ρ1 => Φ (!c) ρ1) Ξ
theorem sim_and {t u : TT} {a b : DTv} (ha : SimT K W t a) (hb : SimT K W u b) : SimT K W (tAnd t u) (dAnd a b) := by
  intro C F H σ ρ Φ Ξ Q hK J q k w
  refine ha C F H σ ρ _ Ξ _ hK J q (fun c ρ1 F1 H1 J1 e1 q1 => ?_) w
  cases c with
  | true =>
    rw [if_pos rfl] at q1 ⊢
    exact hb C F1 H1 σ ρ1 Φ Ξ Q hK J1 q1 (fun b ρ2 F2 H2 J2 e2 q2 => k b ρ2 F2 H2 J2 (e1.trans e2) q2) (w.ext e1)
  | false =>
    rw [if_neg Bool.false_ne_true] at q1 ⊢
    exact k false ρ1 F1 H1 J1 e1 q1
theorem sim_or {t u : TT} {a b : DTv} (ha : SimT K W t a) (hb : SimT K W u b) : SimT K W (tOr t u) (dOr a b) := by
  intro C F H σ ρ Φ Ξ Q hK J q k w
  refine ha C F H σ ρ _ Ξ _ hK J q (fun c ρ1 F1 H1 J1 e1 q1 => ?_) w
  cases c with
  | true =>
    rw [if_pos rfl] at q1 ⊢
    exact k true ρ1 F1 H1 J1 e1 q1
  | false =>
    rw [if_neg Bool.false_ne_true] at q1 ⊢
    exact hb C F1 H1 σ ρ1 Φ Ξ Q hK J1 q1 (fun b ρ2 F2 H2 J2 e2 q2 => k b ρ2 F2 H2 J2 (e1.trans e2) q2) (w.ext e1)
theorem sim_not {t : TT} {a : DTv} (ha : SimT K W t a) : SimT K W (tNot t) (dNot a) := fun C F H σ ρ Φ Ξ Q hK J q k w =>
  ha C F H σ ρ _ Ξ _ hK J q (fun c ρ1 F1 H1 J1 e1 q1 => k (!c) ρ1 F1 H1 J1 e1 q1) w
theorem dw_and1 {a : Expr} {t : TT} {d : DTv} {pos : Pos} (h : DT X W a t d) : DW X W (.BoolOp .And [a] pos) t d := ⟨pw_and1 h.pt, h.sim⟩
theorem dw_or1 {a : Expr} {t : TT} {d : DTv} {pos : Pos} (h : DT X W a t d) : DW X W (.BoolOp .Or [a] pos) t d := ⟨pw_or1 h.pt, h.sim⟩
theorem dw_and {a b : Expr} {rest : List Expr} {t u : TT} {da db : DTv} {pos : Pos} (ha : DT X W a t da) (hb : DW X W (.BoolOp .And (b :: rest) pos) u db) : DW X W (.BoolOp .And (a :: b :: rest) pos) (tAnd t u) (dAnd da db) := ⟨pw_and ha.pt hb.pw, sim_and ha.sim hb.sim⟩
theorem dw_or {a b : Expr} {rest : List Expr} {t u : TT} {da db : DTv} {pos : Pos} (ha : DT X W a t da) (hb : DW X W (.BoolOp .Or (b :: rest) pos) u db) : DW X W (.BoolOp .Or (a :: b :: rest) pos) (tOr t u) (dOr da db) := ⟨pw_or ha.pt hb.pw, sim_or ha.sim hb.sim⟩
theorem DW.pt {e : Expr} {t : TT} {d : DTv} (h : DW X W e t d) : DT X W e t d := ⟨PW.pt h.pw, h.sim⟩
theorem dt_not {a : Expr} {t : TT} {d : DTv} {pos : Pos} (h : DT X W a t d) : DT X W (.UnaryOp .Not a pos) (tNot t) (dNot d) := ⟨pt_not h.pt, sim_not h.sim⟩
/-- as values -/
def dAndV (a b : DEv) : DEv := fun ρ Φ Ξ => a ρ (fun x ρ1 => match x with
  | .bl c => if c = true then b ρ1 Φ Ξ else Φ (.bl false) ρ1
  | _ => False) Ξ
def dOrV (a b : DEv) : DEv := fun ρ Φ Ξ => a ρ (fun x ρ1 => match x with
  | .bl c => if c = true then Φ (.bl true) ρ1 else b ρ1 Φ Ξ
  | _ => False) Ξ
def dNotV (a : DEv) : DEv := fun ρ Φ Ξ => a ρ (fun x ρ1 => match x with
  | .bl c => Φ (.bl (!c)) ρ1
  | _ => False) Ξ
theorem sim_andV {ta tb : TE} {da db : DEv} (ha : SimE K W ta da) (hb : SimE K W tb db) : SimE K W (tAndV ta tb) (dAndV da db) := by
  intro C F H σ ρ Φ Ξ Q hK J q k w
  refine ha C F H σ ρ _ Ξ _ hK J q (fun x d ρ1 F1 H1 J1 e1 r1 q1 => ?_) w
  cases r1 with
  | bl c =>
    refine ⟨c, rfl, ?_⟩
    cases c with
    | true => exact hb C F1 H1 σ ρ1 Φ Ξ Q hK J1 q1 (fun v b ρ2 F2 H2 J2 e2 r2 q2 => k v b ρ2 F2 H2 J2 (e1.trans e2) r2 q2) (w.ext e1)
    | false => exact k _ _ ρ1 F1 H1 J1 e1 (.bl false) q1
  | _ => exact q1.elim
theorem sim_orV {ta tb : TE} {da db : DEv} (ha : SimE K W ta da) (hb : SimE K W tb db) : SimE K W (tOrV ta tb) (dOrV da db) := by
  intro C F H σ ρ Φ Ξ Q hK J q k w
  refine ha C F H σ ρ _ Ξ _ hK J q (fun x d ρ1 F1 H1 J1 e1 r1 q1 => ?_) w
  cases r1 with
  | bl c =>
    refine ⟨c, rfl, ?_⟩
    cases c with
    | true => exact k _ _ ρ1 F1 H1 J1 e1 (.bl true) q1
    | false => exact hb C F1 H1 σ ρ1 Φ Ξ Q hK J1 q1 (fun v b ρ2 F2 H2 J2 e2 r2 q2 => k v b ρ2 F2 H2 J2 (e1.trans e2) r2 q2) (w.ext e1)
  | _ => exact q1.elim
theorem sim_notV {ta : TE} {da : DEv} (ha : SimE K W ta da) : SimE K W (tNotV ta) (dNotV da) := by
  intro C F H σ ρ Φ Ξ Q hK J q k w
  refine ha C F H σ ρ _ Ξ _ hK J q (fun x d ρ1 F1 H1 J1 e1 r1 q1 => ?_) w
  cases r1 with
  | bl c => exact ⟨c, rfl, k _ _ ρ1 F1 H1 J1 e1 (.bl _) q1⟩
  | _ => exact q1.elim
theorem de_one {a : Expr} {op} {t : TE} {d : DEv} {pos : Pos} (h : DE X W a t d) : DE X W (.BoolOp op [a] pos) t d := ⟨pe_one h.pe, h.sim⟩
theorem de_and {a b : Expr} {rest : List Expr} {ta tb : TE} {da db : DEv} {pos : Pos} (ha : DE X W a ta da) (hb : DE X W (.BoolOp .And (b :: rest) pos) tb db) : DE X W (.BoolOp .And (a :: b :: rest) pos) (tAndV ta tb) (dAndV da db) := ⟨pe_and ha.pe hb.pe, sim_andV ha.sim hb.sim⟩
theorem de_or {a b : Expr} {rest : List Expr} {ta tb : TE} {da db : DEv} {pos : Pos} (ha : DE X W a ta da) (hb : DE X W (.BoolOp .Or (b :: rest) pos) tb db) : DE X W (.BoolOp .Or (a :: b :: rest) pos) (tOrV ta tb) (dOrV da db) := ⟨pe_or ha.pe hb.pe, sim_orV ha.sim hb.sim⟩
theorem de_not {a : Expr} {t : TE} {d : DEv} {pos : Pos} (h : DE X W a t d) : DE X W (.UnaryOp .Not a pos) (tNotV t) (dNotV d) := ⟨pe_not h.pe, sim_notV h.sim⟩
def dIf (c : DTv) (a b : DEv) : DEv := fun ρ Φ Ξ => c ρ (fun t ρ1 => if t = true then a ρ1 Φ Ξ else b ρ1 Φ Ξ) Ξ
theorem de_if {c a b : Expr} {tc : TT} {ta tb : TE} {dc : DTv} {da db : DEv} {pos : Pos} (hc : DT X W c tc dc) (ha : DE X W a ta da) (hb : DE X W b tb db) : DE X W (.IfExp c a b pos) (tIf tc ta tb) (dIf dc da db) := by
  refine ⟨pe_ifExp hc.pt ha.pe hb.pe, fun C F H σ ρ Φ Ξ Q hK J q k w => ?_⟩
  refine hc.sim C F H σ ρ _ Ξ _ hK J q (fun t ρ1 F1 H1 J1 e1 q1 => ?_) w
  cases t with
  | true =>
    rw [if_pos rfl] at q1 ⊢
    exact ha.sim C F1 H1 σ ρ1 Φ Ξ Q hK J1 q1 (fun v b ρ2 F2 H2 J2 e2 r2 q2 => k v b ρ2 F2 H2 J2 (e1.trans e2) r2 q2) (w.ext e1)
  | false =>
    rw [if_neg Bool.false_ne_true] at q1 ⊢
    exact hb.sim C F1 H1 σ ρ1 Φ Ξ Q hK J1 q1 (fun v b ρ2 F2 H2 J2 e2 r2 q2 => k v b ρ2 F2 H2 J2 (e1.trans e2) r2 q2) (w.ext e1)
/-- a < b <= c -/
def dChain (rd rd' : D → D → (D → Prop) → Prop) (da db dc : DEv) : DEv := fun ρ Φ Ξ => da ρ (fun x ρ1 => db ρ1 (fun y ρ2 => rd x y fun z => match z with
  | .bl c => if c = true then dc ρ2 (fun u ρ3 => rd' y u fun z => Φ z ρ3) Ξ else Φ (.bl false) ρ2
  | _ => False) Ξ) Ξ
theorem sim_chain {r r' : R2} {rd rd' : D → D → (D → Prop) → Prop} {ta tb tc : TE} {da db dc : DEv} (hr : SimR K r rd) (hr' : SimR K r' rd') (ha : SimE K W ta da) (hb : SimE K W tb db) (hc : SimE K W tc dc) : SimE K W (tChain r r' ta tb tc) (dChain rd rd' da db dc) := by
  intro C F H σ ρ Φ Ξ Q hK J h k w
  refine ha C F H σ ρ _ Ξ _ hK J h (fun x a ρ1 F1 H1 J1 e1 r1 q1 => ?_) w
  refine hb C F1 H1 σ ρ1 _ Ξ _ hK J1 q1 (fun y b ρ2 F2 H2 J2 e2 r2 q2 => ?_) (w.ext e1)
  refine hr F2 H2 x y a b _ _ J2.fh (r1.mono e2) r2 q2 fun v d F3 H3 g r3 q3 => ?_
  have e3 := e1.trans (e2.trans g.ff)
  cases r3 with
  | bl t =>
    refine ⟨t, rfl, ?_⟩
    cases t with
    | true =>
      refine hc C F3 H3 σ ρ2 _ Ξ _ hK (J2.grow g) q3 (fun u c ρ4 F4 H4 J4 e4 r4 q4 => ?_) (w.ext e3)
      exact hr' F4 H4 y u b c _ _ J4.fh (r2.mono (g.ff.trans e4)) r4 q4 fun v d F5 H5 g5 r5 q5 => k v d ρ4 F5 H5 (J4.grow g5) (e3.trans (e4.trans g5.ff)) r5 q5
    | false => exact k _ _ ρ2 F3 H3 (J2.grow g) e3 (.bl false) q3
  | _ => exact q3.elim
theorem de_chain {a b c : Expr} {ta tb tc : TE} {da db dc : DEv} {op op' : CmpOp} {r r' : R2} {rd rd' : D → D → (D → Prop) → Prop} {pos : Pos} (ho : OpR X (compareOp op) r) (hr : SimR X.K r rd) (ho' : OpR X (compareOp op') r') (hr' : SimR X.K r' rd') (ha : DE X W a ta da) (hb : DE X W b tb db) (hc : DE X W c tc dc)
    (hm : lastMarks [op, op'] [b, c] = false := by with_unfolding_all rfl) : DE X W (.Compare a [op, op'] [b, c] pos) (tChain r r' ta tb tc) (dChain rd rd' da db dc) := ⟨pe_chain ho ho' ha.pe hb.pe hc.pe hm, sim_chain hr hr' ha.sim hb.sim hc.sim⟩
theorem dt_chain {a b c : Expr} {ta tb tc : TE} {da db dc : DEv} {op op' : CmpOp} {r r' : R2} {rd rd' : D → D → (D → Prop) → Prop} {pos : Pos} (ho : OpR X (compareOp op) r) (hr : SimR X.K r rd) (ho' : OpR X (compareOp op') r') (hr' : SimR X.K r' rd') (ha : DE X W a ta da) (hb : DE X W b tb db) (hc : DE X W c tc dc)
    (hm : lastMarks [op, op'] [b, c] = false := by with_unfolding_all rfl) : DT X W (.Compare a [op, op'] [b, c] pos) (tTest (tChain r r' ta tb tc)) (dTest (dChain rd rd' da db dc)) := ⟨pt_chain ho ho' ha.pe hb.pe hc.pe hm, sim_test (sim_chain hr hr' ha.sim hb.sim hc.sim)⟩

/-! ### arguments, displays -/
def dNil : DAv := fun ρ Φ _ => Φ [] ρ
def dCons (de : DEv) (da : DAv) : DAv := fun ρ Φ Ξ => de ρ (fun x ρ1 => da ρ1 (fun as ρ2 => Φ (.d x :: as) ρ2) Ξ) Ξ
/-- an own object handed on -/
def dConsS (i : Nat) (da : DAv) : DAv := fun ρ Φ Ξ => match ρ[i]? with
  | some sv => if sv.own = true then da ρ (fun as ρ2 => Φ (.sl i :: as) ρ2) Ξ else False
  | _ => False
theorem ArgsRep.mono {F F' : Hp} {σ : L2.St} (e : Ext F F') : ∀ {vs : List V} {as : List AV}, ArgsRep K F σ vs as → ArgsRep K F' σ vs as
  | _, _, .nil => .nil
  | _, _, .cons (a := .d x) h r => .cons (Rep.mono e h) (ArgsRep.mono e r)
  | _, _, .cons (a := .sl i) h r => .cons h (ArgsRep.mono e r)
theorem da_nil : DA X W [] tNil dNil := ⟨pa_nil, fun C F H σ ρ Φ Ξ Q hK J h k w => k [] [] ρ F H J (.refl F) .nil h⟩
theorem da_cons {e : Expr} {es : List Expr} {te : TE} {ta : TA} {de : DEv} {da : DAv} (he : DE X W e te de) (hr : DA X W es ta da) (hs : starEach (e :: es) X.env = (false, eval e X.env) :: starEach es X.env := by rfl) : DA X W (e :: es) (tCons te ta) (dCons de da) := by
  refine ⟨pa_cons he.pe hr.pa hs, fun C F H σ ρ Φ Ξ Q hK J h k w => ?_⟩
  refine he.sim C F H σ ρ _ Ξ _ hK J h (fun v x ρ1 F1 H1 J1 e1 r1 q1 => ?_) w
  exact hr.sim C F1 H1 σ ρ1 _ Ξ _ hK J1 q1 (fun vs as ρ2 F2 H2 J2 e2 r2 q2 => k _ _ ρ2 F2 H2 J2 (e1.trans e2) (.cons (a := .d x) (r1.mono e2) r2) q2) (w.ext e1)
theorem da_consS (i : Nat) {x : Str} {p : Pos} {es : List Expr} {ta : TA} {da : DAv} (he : PE X (.Name x p) (tVar i)) (hr : DA X W es ta da) (hs : starEach (.Name x p :: es) X.env = (false, eval (.Name x p) X.env) :: starEach es X.env := by rfl) : DA X W (.Name x p :: es) (tCons (tVar i) ta) (dConsS i da) := by
  refine ⟨pa_cons he hr.pa hs, fun C F H σ ρ Φ Ξ Q hK J h k w => ?_⟩
  unfold dConsS at h
  split at h
  · rename_i sv e
    by_cases ho : sv.own = true
    · rw [if_pos ho] at h
      obtain ⟨p, e1, _⟩ := J.ref e ho
      exact ⟨.ref p, e1, hr.sim C F H σ ρ _ Ξ _ hK J h (fun vs as ρ2 F2 H2 J2 e2 r2 q2 => k _ _ ρ2 F2 H2 J2 e2 (.cons (a := .sl i) e1 r2) q2) w⟩
    · rw [if_neg ho] at h; exact h.elim
  · exact h.elim
/-- the arguments as data -/
def avD : List AV → Option (List D)
  | [] => some []
  | .d x :: as => (avD as).map (x :: ·)
  | .sl _ :: _ => none
theorem ArgsRep.data {F : Hp} {σ : L2.St} : ∀ {vs : List V} {as : List AV} {ds : List D}, ArgsRep K F σ vs as → avD as = some ds → RepL K F vs ds
  | _, _, _, .nil, e => by cases e; exact .nil
  | _, _, ds, .cons (a := .d x) (as := as) h r, e => by
    have e' : (avD as).map (x :: ·) = some ds := e
    cases q : avD as with
    | none => rw [q] at e'; cases e'
    | some es =>
      rw [q] at e'; cases e'
      exact .cons h (ArgsRep.data r q)
  | _, _, _, .cons (a := .sl i) h r, e => by cases e
def dArgs (da : DAv) (k : List D → List SV → Prop) : List SV → XQ → Prop := fun ρ Ξ => da ρ (fun as ρ1 => match avD as with
  | some ds => k ds ρ1
  | none => False) Ξ
def dTup (da : DAv) : DEv := fun ρ Φ Ξ => dArgs da (fun ds ρ1 => ds.length ≤ 1000 ∧ Φ (.tup ds) ρ1) ρ Ξ
def dLst (da : DAv) : DOv := fun ρ Φ Ξ => dArgs da (fun ds ρ1 => ds.length ≤ 1000 ∧ Φ ds ρ1) ρ Ξ
theorem size1000 {n : Nat} (h : n ≤ 1000) : n ≤ sizeLine := Nat.le_trans h (by decide)
theorem size_of {n : Nat} (h : n ≤ 1000000) : n ≤ sizeLine := Nat.le_trans h (by decide)
theorem size_lt {n : Nat} (h : n < 1000000) : n < sizeLine := Nat.lt_of_lt_of_le h (by decide)
theorem de_tup {es : List Expr} {ta : TA} {da : DAv} {x1} {pos : Pos} (h : DA X W es ta da) : DE X W (.Tuple es x1 pos) (tTup ta) (dTup da) := by
  refine ⟨pe_tup h.pa, fun C F H σ ρ Φ Ξ Q hK J q k w => ?_⟩
  refine h.sim C F H σ ρ _ Ξ _ hK J q (fun vs as ρ1 F1 H1 J1 e1 r1 q1 => ?_) w
  cases z : avD as with
  | none => rw [z] at q1; exact q1.elim
  | some ds =>
    rw [z] at q1
    have rl := r1.data z
    refine ⟨size1000 (by rw [rl.length]; exact q1.1), fun p np => ?_⟩
    have g := Grow.new (o := .tup vs) J1.fh np
    exact k _ _ ρ1 _ _ (J1.grow g) (e1.trans g.ff) (.tup (.inl upd_same) (rl.mono g.ff)) q1.2
theorem do_lst {es : List Expr} {ta : TA} {da : DAv} {pos : Pos} (h : DA X W es ta da) : DO X W (.List es pos) (tLst ta) (dLst da) := by
  refine ⟨pe_lst h.pa, fun C F H σ ρ Φ Ξ Q hK J q k w => ?_⟩
  refine h.sim C F H σ ρ _ Ξ _ hK J q (fun vs as ρ1 F1 H1 J1 e1 r1 q1 => ?_) w
  cases z : avD as with
  | none => rw [z] at q1; exact q1.elim
  | some ds =>
    rw [z] at q1
    have rl := r1.data z
    refine ⟨size1000 (by rw [rl.length]; exact q1.1), fun p np => ?_⟩
    have g := Grow.fresh (o := .lst vs) J1.fh np
    exact k p vs ds ρ1 _ _ (J1.grow g) e1 (J1.tmp np) upd_same rl q1.2
/-- a new list as data -/
def dFrz (dv : DOv) : DEv := fun ρ Φ Ξ => dv ρ (fun xs ρ1 => Φ (.lst xs) ρ1) Ξ
theorem sim_frz {te : TE} {dv : DOv} (h : SimO K W te dv) : SimE K W te (dFrz dv) := by
  intro C F H σ ρ Φ Ξ Q hK J q k w
  refine h C F H σ ρ _ Ξ _ hK J q (fun p vs xs ρ1 F1 H1 J1 e1 T hp rl q1 => ?_) w
  obtain ⟨J2, e2⟩ := J1.freeze T hp
  exact k _ _ ρ1 _ H1 J2 (e1.trans e2) (.lst upd_same (rl.mono e2)) q1
theorem DO.frz {e : Expr} {te : TE} {dv : DOv} (h : DO X W e te dv) : DE X W e te (dFrz dv) := ⟨h.pe, sim_frz h.sim⟩
end
end DL
namespace DL
open PySem PySem.Spec PyProof.Rows L2 DLU

section
variable {X : Cx} {W : WX} {K : PySem.W.Frag}
/-! ### blocks -/
def dNext : DSv := fun En ρ => En.nx ρ
def dSeq (a b : DSv) : DSv := fun En ρ => a { En with nx := fun ρ' => b En ρ' } ρ
theorem dss_nil : DSs X W [] tNext dNext := ⟨pss_nil, fun C F H σ ρ En D hK J h E => E.nx σ ρ F H J (.refl F) h⟩
theorem dss_cons {st : Stmt} {rest : List Stmt} {t u : TS} {a b : DSv} (h1 : DS X W st t a) (h2 : DSs X W rest u b) : DSs X W (st :: rest) (tSeq t u) (dSeq a b) := by
  refine ⟨pss_cons h1.ps h2.ps, fun C F H σ ρ En D hK J h E => ?_⟩
  exact h1.sim C F H σ ρ _ _ hK J h ⟨fun σ1 ρ1 F1 H1 J1 e1 q => h2.sim C F1 H1 σ1 ρ1 En D hK J1 q (E.ext e1), E.rt, E.bk, E.ct, E.ex, E.ro⟩
theorem dss_one {st : Stmt} {t : TS} {a : DSv} (h1 : DS X W st t a) : DSs X W [st] t a := ⟨pss_one h1.ps, h1.sim⟩
def dBrk : DSv := fun En ρ => En.bk ρ
def dCnt : DSv := fun En ρ => En.ct ρ
theorem ds_pass {pos : Pos} : DS X W (.Pass pos) tNext dNext := ⟨ps_pass, fun C F H σ ρ En D hK J h E => E.nx σ ρ F H J (.refl F) h⟩
theorem ds_break {pos : Pos} : DS X W (.Break pos) tBreak dBrk := ⟨ps_break, fun C F H σ ρ En D hK J h E => E.bk σ ρ F H J (.refl F) h⟩
theorem ds_continue {pos : Pos} : DS X W (.Continue pos) tCont dCnt := ⟨ps_continue, fun C F H σ ρ En D hK J h E => E.ct σ ρ F H J (.refl F) h⟩
def dDrop (de : DEv) : DSv := fun En ρ => de ρ (fun _ ρ1 => En.nx ρ1) En.ex
theorem ds_expr {e : Expr} {te : TE} {de : DEv} {pos : Pos} (h : DE X W e te de) (hs : swapsWith e none pos.line X.env = pure false := by rfl) : DS X W (.Expr e pos) (tDrop te) (dDrop de) :=
  ⟨ps_expr h.pe hs, fun C F H σ ρ En D hK J q E => h.sim C F H σ ρ _ _ _ hK J q (fun v d ρ1 F1 H1 J1 e1 r1 q1 => E.nx σ ρ1 F1 H1 J1 e1 q1) (E.ex σ)⟩
def dRet (de : DEv) : DSv := fun En ρ => de ρ En.rt En.ex
theorem ds_ret {e : Expr} {te : TE} {de : DEv} {pos : Pos} (h : DE X W e te de) : DS X W (.Return (some e) pos) (tRet te) (dRet de) :=
  ⟨ps_ret h.pe, fun C F H σ ρ En D hK J q E => h.sim C F H σ ρ _ _ _ hK J q (fun v d ρ1 F1 H1 J1 e1 r1 q1 => E.rt v d σ ρ1 F1 H1 J1 e1 (by rw [hK]; exact r1) q1) (E.ex σ)⟩
def dRetN : DSv := fun En ρ => En.rt .non ρ
theorem ds_retN {pos : Pos} : DS X W (.Return none pos) tRetN dRetN := ⟨ps_retN, fun C F H σ ρ En D hK J q E => E.rt .non .non σ ρ F H J (.refl F) .non q⟩
def dIfS (c : DTv) (a b : DSv) : DSv := fun En ρ => c ρ (fun t ρ1 => if t = true then a En ρ1 else b En ρ1) En.ex
theorem ds_if {c : Expr} {p q : List Stmt} {tc : TT} {dc : DTv} {t u : TS} {a b : DSv} {pos : Pos} (hc : DT X W c tc dc) (ha : DSs X W p t a) (hb : DSs X W q u b) : DS X W (.If c p q pos) (tIfS tc t u) (dIfS dc a b) := by
  refine ⟨ps_if hc.pt ha.ps hb.ps, fun C F H σ ρ En D hK J h E => ?_⟩
  refine hc.sim C F H σ ρ _ _ _ hK J h (fun t ρ1 F1 H1 J1 e1 q1 => ?_) (E.ex σ)
  cases t with
  | true =>
    rw [if_pos rfl] at q1 ⊢
    exact ha.sim C F1 H1 σ ρ1 En D hK J1 q1 (E.ext e1)
  | false =>
    rw [if_neg Bool.false_ne_true] at q1 ⊢
    exact hb.sim C F1 H1 σ ρ1 En D hK J1 q1 (E.ext e1)
/-- a statement that is never reached -/
def dNever : DSv := fun _ _ => False
theorem ds_never {st : Stmt} : DS X W st tNever dNever := ⟨ps_never, fun _ _ _ _ _ _ _ _ _ h _ => h.elim⟩

/-! ### stores -/
def dStore (i : Nat) (sv : SV) (ρ : List SV) (k : List SV → Prop) : Prop := match ρ[i]? with
  | some s => if s.io = true then False else k (ρ.set i sv)
  | none => False
theorem dStore_of {i : Nat} {sv : SV} {ρ : List SV} {k : List SV → Prop} (h : dStore i sv ρ k) : ∃ s, ρ[i]? = some s ∧ s.io = false ∧ k (ρ.set i sv) := by
  unfold dStore at h
  split at h
  · rename_i s e
    by_cases q : s.io = true
    · rw [if_pos q] at h; exact h.elim
    · rw [if_neg q] at h; exact ⟨s, e, by simpa using q, h⟩
  · exact h.elim
/-- a target, the value data -/
abbrev DGv := D → List SV → (List SV → Prop) → Prop
/-- the slots but these stay -/
def StayBut (sl : List Nat) (σ σ' : L2.St) : Prop := σ'.length = σ.length ∧ ∀ i, i ∉ sl → σ'[i]? = σ[i]?
theorem StayBut.refl (σ : L2.St) : StayBut [] σ σ := ⟨rfl, fun _ _ => rfl⟩
theorem StayBut.trans {a b : List Nat} {σ σ1 σ2 : L2.St} (h : StayBut a σ σ1) (h' : StayBut b σ1 σ2) : StayBut (a ++ b) σ σ2 := ⟨h'.1.trans h.1, fun i hi => by
  rw [List.mem_append] at hi
  exact (h'.2 i fun z => hi (.inr z)).trans (h.2 i fun z => hi (.inl z))⟩
def SimG (K : PySem.W.Frag) (sl : List Nat) (g : TG) (dg : DGv) : Prop := ∀ (C : Cc) (F H : Hp) (σ : L2.St) (ρ : List SV) (v : V) (d : D) (k : List SV → Prop) (Q : L2.St → Hp → Prop), C.K = K → I C F H σ ρ → Rep K F v d → dg d ρ k →
  (∀ σ' ρ' F' H', I C F' H' σ' ρ' → Ext F F' → StayBut sl σ σ' → k ρ' → Q σ' H') → g v σ H Q
structure DG (X : Cx) (tg : Expr) (g : TG) (sl : List Nat) (dg : DGv) : Prop where
  pg : PG X tg g
  sim : SimG X.K sl g dg
abbrev DGsv := List D → List SV → (List SV → Prop) → Prop
def SimGs (K : PySem.W.Frag) (sl : List Nat) (g : TGs) (dg : DGsv) : Prop := ∀ (C : Cc) (F H : Hp) (σ : L2.St) (ρ : List SV) (vs : List V) (ds : List D) (k : List SV → Prop) (Q : L2.St → Hp → Prop), C.K = K → I C F H σ ρ → RepL K F vs ds → dg ds ρ k →
  (∀ σ' ρ' F' H', I C F' H' σ' ρ' → Ext F F' → StayBut sl σ σ' → k ρ' → Q σ' H') → g vs σ H Q
structure DGs (X : Cx) (ts : List Expr) (g : TGs) (sl : List Nat) (dg : DGsv) : Prop where
  pg : PGs X ts g
  sim : SimGs X.K sl g dg
def dgName (i : Nat) : DGv := fun d ρ k => dStore i (.d d) ρ k
theorem dg_name (i : Nat) {x : Str} {pos : Pos} (hN : X.N.Nodup) (hi : X.N[i]? = some x := by rfl) (hx : Loc X.env.scope x := by first | exact Or.inl rfl | exact Or.inr rfl) (hf : X.fn x = true ∨ X.env.scope.names.lookup x = some .local := by first | exact .inl rfl | exact .inr rfl | assumption) : DG X (.Name x pos) (gName i) [i] (dgName i) := by
  refine ⟨pg_name hN hi hx hf, fun C F H σ ρ v d k Q hK J r h q => ?_⟩
  obtain ⟨s, e, ni, z⟩ := dStore_of h
  exact q _ _ F H (J.set e ni (by rw [hK]; exact r)) (.refl F) ⟨List.length_set, fun j hj => by rw [List.getElem?_set_ne]; intro w; subst w; simp at hj⟩ z
def dgNil : DGsv := fun ds ρ k => match ds with
  | [] => k ρ
  | _ => False
def dgCons (a : DGv) (b : DGsv) : DGsv := fun ds ρ k => match ds with
  | d :: r => a d ρ fun ρ' => b r ρ' k
  | _ => False
theorem dgs_nil : DGs X [] gNil [] dgNil := by
  refine ⟨pgs_nil, fun C F H σ ρ vs ds k Q hK J r h q => ?_⟩
  cases r with
  | nil => exact ⟨rfl, q σ ρ F H J (.refl F) (.refl σ) h⟩
  | cons _ _ => exact h.elim
theorem dgs_cons {e : Expr} {es : List Expr} {t : TG} {u : TGs} {a : DGv} {b : DGsv} {sl sl' : List Nat} (h1 : DG X e t sl a) (h2 : DGs X es u sl' b) (hs : (assignEach (e :: es) X.env).map (·.2) = assign e X.env :: (assignEach es X.env).map (·.2) := by rfl) : DGs X (e :: es) (gCons t u) (sl ++ sl') (dgCons a b) := by
  refine ⟨pgs_cons h1.pg h2.pg hs, fun C F H σ ρ vs ds k Q hK J r h q => ?_⟩
  cases r with
  | nil => exact h.elim
  | cons r0 rr =>
    exact ⟨_, _, rfl, h1.sim C F H σ ρ _ _ _ _ hK J r0 h fun σ1 ρ1 F1 H1 J1 e1 y1 q1 => h2.sim C F1 H1 σ1 ρ1 _ _ k Q hK J1 (rr.mono e1) q1 fun σ2 ρ2 F2 H2 J2 e2 y2 q2 => q σ2 ρ2 F2 H2 J2 (e1.trans e2) (y1.trans y2) q2⟩
def dgTup (n : Nat) (b : DGsv) : DGv := fun d ρ k => match d with
  | .tup ds => if ds.length = n then b ds ρ k else False
  | _ => False
theorem dg_tup {es : List Expr} {kk : Nat} {t : TGs} {b : DGsv} {n : Nat} {sl : List Nat} {pos : Pos} (hc : X.calm = true) (h : DGs X es t sl b) (hn : (assignEach es X.env).length = n := by rfl) (hst : (assignEach es X.env).findIdx? (·.1) = none := by rfl) : DG X (.Tuple es kk pos) (gTup X.K n t) sl (dgTup n b) := by
  refine ⟨pg_tup hc h.pg hn hst, fun C F H σ ρ v d k Q hK J r hd q => ?_⟩
  cases r with
  | @tup a vs ds hT rl =>
    have hd' : (if ds.length = n then b ds ρ k else False) := hd
    by_cases e : ds.length = n
    · rw [if_pos e] at hd'
      exact ⟨a, vs, rfl, hT.sqt J.fh, by rw [rl.length]; exact e, h.sim C F H σ ρ vs ds k Q hK J rl hd' q⟩
    · rw [if_neg e] at hd'; exact hd'.elim
  | _ => exact hd.elim
def dAsg (de : DEv) (dg : DGv) : DSv := fun En ρ => de ρ (fun x ρ1 => dg x ρ1 En.nx) En.ex
theorem sim_asg {te : TE} {de : DEv} {g : TG} {dg : DGv} {sl : List Nat} (h : SimE K W te de) (hg : SimG K sl g dg) : SimS K W (tAsg te g) (dAsg de dg) := fun C F H σ ρ En D hK J q E =>
  h C F H σ ρ _ _ _ hK J q (fun v d ρ1 F1 H1 J1 e1 r1 q1 => hg C F1 H1 σ ρ1 v d _ _ hK J1 r1 q1 fun σ2 ρ2 F2 H2 J2 e2 _ q2 => E.nx σ2 ρ2 F2 H2 J2 (e1.trans e2) q2) (E.ex σ)
theorem ds_asg {tg e : Expr} {te : TE} {de : DEv} {g : TG} {dg : DGv} {sl : List Nat} {pos : Pos} (he : DE X W e te de) (hg : DG X tg g sl dg) (hs : swapsWithSole [tg] e pos.line X.env = pure false := by rfl) (hw : swappedStores [tg] e X.env = pure none := by rfl)
    (h1 : (assignEach [tg] X.env).map (·.2) = [assign tg X.env] := by rfl) : DS X W (.Assign [tg] e pos) (tAsg te g) (dAsg de dg) := ⟨ps_asg he.pe hg.pg hs hw h1, sim_asg he.sim hg.sim⟩
theorem ds_set (i : Nat) {x : Str} {e : Expr} {te : TE} {de : DEv} {pos pos' : Pos} (hN : X.N.Nodup) (he : DE X W e te de) (hi : X.N[i]? = some x := by rfl) (hx : Loc X.env.scope x := by first | exact Or.inl rfl | exact Or.inr rfl) (hs : swapsWith e (some (.Name x pos')) pos.line X.env = pure false := by rfl)
    (hf : X.fn x = true ∨ X.env.scope.names.lookup x = some .local := by first | exact .inl rfl | exact .inr rfl | assumption) : DS X W (.Assign [.Name x pos'] e pos) (tAsg te (gName i)) (dAsg de (dgName i)) :=
  ⟨ps_set hN hi hx he.pe hs hf, sim_asg he.sim (dg_name (pos := pos') i hN hi hx hf).sim⟩
/-- a new list stored: the def's own -/
def dAsgO (dv : DOv) (i : Nat) : DSv := fun En ρ => dv ρ (fun xs ρ1 => dStore i (.ol false xs) ρ1 En.nx) En.ex
theorem sim_asgO {te : TE} {dv : DOv} {i : Nat} (h : SimO K W te dv) : SimS K W (tAsg te (gName i)) (dAsgO dv i) := fun C F H σ ρ En D hK J q E =>
  h C F H σ ρ _ _ _ hK J q (fun p vs xs ρ1 F1 H1 J1 e1 T hp rl q1 => by
    obtain ⟨s, e, ni, z⟩ := dStore_of q1
    exact E.nx _ _ F1 H1 (J1.setO (sv0 := .ol false xs) e ni T rfl ⟨vs, hp, by rw [hK]; exact rl⟩) e1 z) (E.ex σ)
theorem ds_setO (i : Nat) {x : Str} {e : Expr} {te : TE} {dv : DOv} {pos pos' : Pos} (hN : X.N.Nodup) (he : DO X W e te dv) (hi : X.N[i]? = some x := by rfl) (hx : Loc X.env.scope x := by first | exact Or.inl rfl | exact Or.inr rfl) (hs : swapsWith e (some (.Name x pos')) pos.line X.env = pure false := by rfl)
    (hf : X.fn x = true ∨ X.env.scope.names.lookup x = some .local := by first | exact .inl rfl | exact .inr rfl | assumption) : DS X W (.Assign [.Name x pos'] e pos) (tAsg te (gName i)) (dAsgO dv i) :=
  ⟨ps_set hN hi hx he.pe hs hf, sim_asgO he.sim⟩
/-- name += e, name -= e (whole numbers) -/
def dAugI (f : Int → Int → Int) (i : Nat) (de : DEv) : DSv := fun En ρ => match ρ[i]? with
  | some (.d (.int a)) => de ρ (fun y ρ1 => match y with
    | .int b => dStore i (.d (.int (f a b))) ρ1 En.nx
    | _ => False) En.ex
  | _ => False
theorem ds_augI {f : Int → Int → Int} (i : Nat) {x : Str} {e : Expr} {te : TE} {de : DEv} {op : Operator} {pos pos' : Pos} (ho : PIp X op (ipI f)) (hN : X.N.Nodup) (he : DE X W e te de) (hi : X.N[i]? = some x := by rfl) (hx : Loc X.env.scope x := by first | exact Or.inl rfl | exact Or.inr rfl)
    (hf : X.fn x = true ∨ X.env.scope.names.lookup x = some .local := by first | exact .inl rfl | exact .inr rfl | assumption) : DS X W (.AugAssign (.Name x pos') op e pos) (tAug i te (ipI f)) (dAugI f i de) := by
  refine ⟨ps_aug hN hi hx he.pe ho hf, fun C F H σ ρ En D hK J q E => ?_⟩
  unfold dAugI at q
  split at q
  · rename_i a e0
    obtain ⟨v, e1, r⟩ := J.val e0
    cases r
    refine ⟨_, e1, he.sim C F H σ ρ _ _ _ hK J q (fun v y ρ1 F1 H1 J1 e1 r1 q1 => ?_) (E.ex σ)⟩
    cases r1 with
    | int b =>
      obtain ⟨s, e, ni, z⟩ := dStore_of q1
      exact ⟨a, b, rfl, rfl, E.nx _ _ F1 H1 (J1.set e ni (.int _)) e1 z⟩
    | _ => exact q1.elim
  · exact q.elim

/-! a new list, one's own list handed out -/
def dRetO (dv : DOv) : DSv := fun En ρ => dv ρ En.ro En.ex
theorem ds_retO {e : Expr} {te : TE} {dv : DOv} {pos : Pos} (h : DO X W e te dv) : DS X W (.Return (some e) pos) (tRet te) (dRetO dv) :=
  ⟨ps_ret h.pe, fun C F H σ ρ En D hK J q E => h.sim C F H σ ρ _ _ _ hK J q (fun p vs xs ρ1 F1 H1 J1 e1 T hp rl q1 => E.ro p vs xs σ ρ1 F1 H1 J1 e1 T hp (by rw [hK]; exact rl) q1) (E.ex σ)⟩
def dRetV (i : Nat) : DSv := fun En ρ => match ρ[i]? with
  | some (.ol false xs) => En.ro xs (ρ.set i .un)
  | _ => False
theorem Weaks.wipe1 : ∀ {ρ : List SV} {i : Nat} {s : SV}, ρ[i]? = some s → s.io = false → Weaks ρ (ρ.set i .un)
  | [], i, s, e, _ => by simp at e
  | a :: ρ, 0, s, e, h => by simp at e; subst e; exact .cons (.un h) (.refl _)
  | a :: ρ, i + 1, s, e, h => .cons (.refl _) (Weaks.wipe1 (i := i) (by simpa using e) h)
theorem ds_retV (i : Nat) {x : Str} {p pos : Pos} (h : PE X (.Name x p) (tVar i)) : DS X W (.Return (some (.Name x p)) pos) (tRet (tVar i)) (dRetV i) := by
  refine ⟨ps_ret h, fun C F H σ ρ En D hK J q E => ?_⟩
  unfold dRetV at q
  split at q
  · rename_i xs e
    obtain ⟨p, ep, eg, nf, vs, hp, rl⟩ := J.ref e rfl
    obtain ⟨p', ep', ⟨_, n0⟩, _⟩ := J.slo e rfl
    rw [eg] at ep'; cases ep'
    have hl : i < ρ.length := (List.getElem?_eq_some_iff.mp e).1
    refine ⟨_, ep, E.ro p vs xs σ _ F H (J.weak (Weaks.wipe1 e rfl)) (.refl F) ⟨nf, n0, fun j sv ej o z => ?_⟩ hp rl q⟩
    by_cases w : i = j
    · subst w; rw [List.getElem?_set_self hl] at ej; cases ej; cases o
    · rw [List.getElem?_set_ne w] at ej
      exact w (J.ap i j p _ sv e ej rfl o eg z)
  · exact q.elim

/-! ### what is walked -/
abbrev DIv := List SV → (List D → List SV → Prop) → XQ → Prop
/-- the walk of items: it goes on while what was frozen stays -/
structure Walks (K : PySem.W.Frag) (F : Hp) (J : It) (items : List D) : Prop where
  w : ∃ (G : Hp → Prop) (Y : Nat → Hp → V → Hp → Prop), Walk J items.length G Y ∧ (∀ H2, Ext F H2 → G H2) ∧
    ∀ i Hc x Hn F2, Ext F F2 → Ext F2 Hc → Y i Hc x Hn → ∃ F3 d, items[i]? = some d ∧ Grow F2 Hc F3 Hn ∧ Rep K F3 x d
def SimI (K : PySem.W.Frag) (W : WX) (wi : TI) (di : DIv) : Prop := ∀ (C : Cc) (F H : Hp) (σ : L2.St) (ρ : List SV) (Φ : List D → List SV → Prop) (Ξ : XQ) (R : It → Hp → Prop), C.K = K → I C F H σ ρ → di ρ Φ Ξ →
  (∀ J items ρ' F' H', I C F' H' σ ρ' → Ext F F' → Walks K F' J items → Φ items ρ' → R J H') → WOk W C F σ Ξ → wi σ H R
structure DI (X : Cx) (W : WX) (tg iter : Expr) (wi : TI) (di : DIv) : Prop where
  pi : PI X tg iter wi
  sim : SimI X.K W wi di
def dFor (di : DIv) (dg : DGv) (db : DSv) : DSv := fun En ρ => di ρ (fun items ρ1 => ∃ Inv : Nat → List SV → Prop, Inv 0 ρ1 ∧
  (∀ i x ρ2, items[i]? = some x → Inv i ρ2 → dg x ρ2 fun ρ3 => db { En with nx := fun ρ4 => ∃ ρ5, Weaks ρ4 ρ5 ∧ Inv (i + 1) ρ5, ct := fun ρ4 => ∃ ρ5, Weaks ρ4 ρ5 ∧ Inv (i + 1) ρ5, bk := En.nx } ρ3) ∧
  (∀ ρ2, Inv items.length ρ2 → En.nx ρ2)) En.ex
theorem sim_for {wi : TI} {di : DIv} {g : TG} {dg : DGv} {tb : TS} {db : DSv} {sl : List Nat} (hi : SimI K W wi di) (hg : SimG K sl g dg) (hb : SimS K W tb db) : SimS K W (tFor wi g tb) (dFor di dg db) := by
  intro C F H σ ρ En D hK J q E
  refine hi C F H σ ρ _ _ _ hK J q (fun It items ρ1 F1 H1 J1 e1 w q1 => ?_) (E.ex σ)
  obtain ⟨Inv, h0, hs, hd⟩ := q1
  obtain ⟨G, Y, wk, hG, hY⟩ := w.w
  refine for_it wk (fun i σ H => ∃ F2 ρ2, I C F2 H σ ρ2 ∧ Ext F1 F2 ∧ Inv i ρ2) ⟨F1, ρ1, J1, .refl _, h0⟩ (fun i σ' H' _ ⟨F2, ρ2, J2, e2, _⟩ => hG H' (e2.trans J2.fh)) (fun i x σ' H' Hn hi' ⟨F2, ρ2, J2, e2, v2⟩ y => ?_) (fun σ' H' ⟨F2, ρ2, J2, e2, v2⟩ => E.nx σ' ρ2 F2 H' J2 (e1.trans e2) (hd ρ2 v2))
  obtain ⟨F3, d, ed, gr, rx⟩ := hY i H' x Hn F2 e2 J2.fh y
  refine hg C F3 Hn σ' ρ2 x d _ _ hK (J2.grow gr) rx (hs i d ρ2 ed v2) fun σ4 ρ4 F4 H4 J4 e4 _ q4 => ?_
  have ee : Ext F F4 := e1.trans (e2.trans (gr.ff.trans e4))
  have ei : Ext F1 F4 := e2.trans (gr.ff.trans e4)
  exact hb C F4 H4 σ4 ρ4 _ _ hK J4 q4 ⟨fun σ5 ρ5 F5 H5 J5 e5 ⟨ρ6, w6, z⟩ => ⟨F5, ρ6, J5.weak w6, ei.trans e5, z⟩, fun v d σ5 ρ5 F5 H5 J5 e5 r z => E.rt v d σ5 ρ5 F5 H5 J5 (ee.trans e5) r z,
    fun σ5 ρ5 F5 H5 J5 e5 z => E.nx σ5 ρ5 F5 H5 J5 (ee.trans e5) z, fun σ5 ρ5 F5 H5 J5 e5 ⟨ρ6, w6, z⟩ => ⟨F5, ρ6, J5.weak w6, ei.trans e5, z⟩, fun σ5 => (E.ex σ5).ext ee, fun p vs xs σ5 ρ5 F5 H5 J5 e5 T hp rl z => E.ro p vs xs σ5 ρ5 F5 H5 J5 (ee.trans e5) T hp rl z⟩
theorem ds_for {tg iter : Expr} {body : List Stmt} {wi : TI} {di : DIv} {g : TG} {dg : DGv} {tb : TS} {db : DSv} {sl : List Nat} {pos : Pos} (hp : PassesOwn (model X.prog X.w) X.A X.env X.xe) (hc : X.calm = true) (hi : DI X W tg iter wi di) (hg : DG X tg g sl dg) (hb : DSs X W body tb db)
    (hs : ∀ x, foldedSetIterable iter X.env x = pure x := by intro _; rfl) : DS X W (.For tg iter body [] pos) (tFor wi g tb) (dFor di dg db) := ⟨ps_for hp hc hi.pi hg.pg hb.ps hs, sim_for hi.sim hg.sim hb.sim⟩
/-- while -/
def dWhile (c : DTv) (db : DSv) : DSv := fun En ρ => ∃ Inv : Nat → List SV → Prop, (∃ m ρ1, Weaks ρ ρ1 ∧ Inv m ρ1) ∧ ∀ m ρ, Inv m ρ → c ρ (fun b ρ1 => if b = true then db { En with nx := fun ρ4 => ∃ ρ5 m', Weaks ρ4 ρ5 ∧ m' < m ∧ Inv m' ρ5, ct := fun ρ4 => ∃ ρ5 m', Weaks ρ4 ρ5 ∧ m' < m ∧ Inv m' ρ5, bk := En.nx } ρ1 else En.nx ρ1) En.ex
theorem ds_while {c : Expr} {body : List Stmt} {tc : TT} {dc : DTv} {tb : TS} {db : DSv} {pos : Pos} (hp : PassesOwn (model X.prog X.w) X.A X.env X.xe) (hc : DT X W c tc dc) (hb : DSs X W body tb db) : DS X W (.While c body [] pos) (tWhile tc tb) (dWhile dc db) := by
  refine ⟨ps_while hp hc.pt hb.ps, fun C F H σ ρ En D hK J q E => ?_⟩
  obtain ⟨Inv, ⟨m0, ρ0, w0, h0⟩, hs⟩ := q
  refine ⟨fun m σ H => ∃ F2 ρ2, I C F2 H σ ρ2 ∧ Ext F F2 ∧ Inv m ρ2, ⟨m0, F, ρ0, J.weak w0, .refl _, h0⟩, fun m σ' H' ⟨F2, ρ2, J2, e2, v2⟩ => ?_⟩
  refine hc.sim C F2 H' σ' ρ2 _ _ _ hK J2 (hs m ρ2 v2) (fun b ρ3 F3 H3 J3 e3 q3 => ?_) ((E.ex σ').ext e2)
  have ee : Ext F F3 := e2.trans e3
  cases b with
  | true =>
    rw [if_pos rfl] at q3 ⊢
    refine ⟨fun σ4 H4 => ∃ m', m' < m ∧ ∃ F2 ρ2, I C F2 H4 σ4 ρ2 ∧ Ext F F2 ∧ Inv m' ρ2, fun σ4 H4 h4 => h4, ?_⟩
    exact hb.sim C F3 H3 σ' ρ3 _ _ hK J3 q3 ⟨fun σ5 ρ5 F5 H5 J5 e5 ⟨ρ6, m', w6, hm, z⟩ => ⟨m', hm, F5, ρ6, J5.weak w6, ee.trans e5, z⟩, fun v d σ5 ρ5 F5 H5 J5 e5 r z => E.rt v d σ5 ρ5 F5 H5 J5 (ee.trans e5) r z,
      fun σ5 ρ5 F5 H5 J5 e5 z => E.nx σ5 ρ5 F5 H5 J5 (ee.trans e5) z, fun σ5 ρ5 F5 H5 J5 e5 ⟨ρ6, m', w6, hm, z⟩ => ⟨m', hm, F5, ρ6, J5.weak w6, ee.trans e5, z⟩, fun σ5 => (E.ex σ5).ext ee, fun p vs xs σ5 ρ5 F5 H5 J5 e5 T hp rl z => E.ro p vs xs σ5 ρ5 F5 H5 J5 (ee.trans e5) T hp rl z⟩
  | false =>
    rw [if_neg Bool.false_ne_true] at q3 ⊢
    exact E.nx σ' ρ3 F3 H3 J3 ee q3

/-! ### a range, a list, a tuple walked -/
def intsFrom (lo : Int) (n : Nat) : List D := (List.range n).map fun (i : Nat) => D.int (lo + (i : Int))
theorem walks_range {lo : Int} {n : Nat} {F : Hp} : Walks K F (Itr lo n) (intsFrom lo n) := by
  have hl : (intsFrom lo n).length = n := by unfold intsFrom; rw [List.length_map, List.length_range]
  refine ⟨fun _ => True, fun i H x H' => i < n ∧ H' = H ∧ x = .int (lo + i), ?_, fun _ _ => trivial, fun i Hc x Hn F2 e e2 y => ?_⟩
  · rw [hl]
    exact ⟨fun i H hi _ => hi, fun H _ => Nat.le_refl n, fun i H x H' hi _ y => ⟨hi, y⟩⟩
  · obtain ⟨hi, rfl, rfl⟩ := y
    exact ⟨F2, .int (lo + i), by unfold intsFrom; rw [List.getElem?_map, List.getElem?_range hi]; rfl, .refl e2, .int _⟩
def dRng1 (da : DAv) : DIv := fun ρ Φ Ξ => dArgs da (fun ds ρ1 => match ds with
  | [.int n] => (-(2 ^ 62) ≤ n ∧ n < 2 ^ 62) ∧ Φ (intsFrom 0 n.toNat) ρ1
  | _ => False) ρ Ξ
def dRng2 (da : DAv) : DIv := fun ρ Φ Ξ => dArgs da (fun ds ρ1 => match ds with
  | [.int lo, .int n] => (-(2 ^ 62) ≤ lo ∧ lo < 2 ^ 62 ∧ -(2 ^ 62) ≤ n ∧ n < 2 ^ 62) ∧ Φ (intsFrom lo (n - lo).toNat) ρ1
  | _ => False) ρ Ξ
theorem sim_args {ta : TA} {da : DAv} (h : SimA K W ta da) {C : Cc} {F H : Hp} {σ : L2.St} {ρ : List SV} {k : List D → List SV → Prop} {Ξ : XQ} {Q : List V → Hp → Prop} (hK : C.K = K) (J : I C F H σ ρ) (q : dArgs da k ρ Ξ)
    (hq : ∀ vs ds ρ' F' H', I C F' H' σ ρ' → Ext F F' → RepL K F' vs ds → k ds ρ' → Q vs H') (w : WOk W C F σ Ξ) : ta σ H Q := by
  refine h C F H σ ρ _ Ξ _ hK J q (fun vs as ρ1 F1 H1 J1 e1 r1 q1 => ?_) w
  cases z : avD as with
  | none => rw [z] at q1; exact q1.elim
  | some ds =>
    rw [z] at q1
    exact hq vs ds ρ1 F1 H1 J1 e1 (r1.data z) q1
theorem di_range1 {tg a : Expr} {ta : TA} {da : DAv} {p pos : Pos} (hm : X.mg "range" = none) (ha : DA X W [a] ta da) (hg : Gl X "range" := by rfl) (hs : starEach [a] X.env = [(false, eval a X.env)] := by rfl) : DI X W tg (.Call (.Name "range" p) [a] [] pos) (iRng1 ta) (dRng1 da) := by
  refine ⟨pi_range1 hg hm ha.pa hs, fun C F H σ ρ Φ Ξ R hK J q k w => ?_⟩
  refine sim_args ha.sim hK J q (fun vs ds ρ1 F1 H1 J1 e1 rl q1 => ?_) w
  split at q1
  · rename_i n
    cases rl with
    | cons r0 r1 =>
      cases r0; cases r1
      exact ⟨n, rfl, q1.1.1, q1.1.2, k _ _ ρ1 F1 H1 J1 e1 walks_range q1.2⟩
  · exact q1.elim
theorem di_range2 {tg a b : Expr} {ta : TA} {da : DAv} {p pos : Pos} (hm : X.mg "range" = none) (ha : DA X W [a, b] ta da) (hg : Gl X "range" := by rfl) (hs : starEach [a, b] X.env = [(false, eval a X.env), (false, eval b X.env)] := by rfl) (hs2 : starEach [b] X.env = [(false, eval b X.env)] := by rfl) : DI X W tg (.Call (.Name "range" p) [a, b] [] pos) (iRng2 ta) (dRng2 da) := by
  refine ⟨pi_range2 hg hm ha.pa hs hs2, fun C F H σ ρ Φ Ξ R hK J q k w => ?_⟩
  refine sim_args ha.sim hK J q (fun vs ds ρ1 F1 H1 J1 e1 rl q1 => ?_) w
  split at q1
  · rename_i lo n
    cases rl with
    | cons r0 r1 =>
      cases r0
      cases r1 with
      | cons r2 r3 =>
        cases r2; cases r3
        exact ⟨lo, n, rfl, q1.1, k _ _ ρ1 F1 H1 J1 e1 walks_range q1.2⟩
  · exact q1.elim
theorem walks_list {a : Addr} {vs : List V} {ds : List D} {F : Hp} (h : SqL K F a vs) (r : RepL K F vs ds) : Walks K F (Itl K a) ds := by
  refine ⟨fun H => SqL K H a vs, YAt vs, ?_, fun H2 e => ext_l e h, fun i Hc x Hn F2 e e2 y => ?_⟩
  · rw [← r.length]; exact walk_list
  · obtain ⟨rfl, ex⟩ := y
    obtain ⟨d, ed, rd⟩ := r.getV ex
    exact ⟨F2, d, ed, .refl e2, rd.mono e⟩
theorem walks_tup {a : Addr} {vs : List V} {ds : List D} {F : Hp} (h : TupAt K F a vs) (r : RepL K F vs ds) : Walks K F (Itt K a) ds := by
  refine ⟨fun H => SqT K H a vs, YAt vs, ?_, fun H2 e => h.sqt e, fun i Hc x Hn F2 e e2 y => ?_⟩
  · rw [← r.length]; exact walk_tup
  · obtain ⟨rfl, ex⟩ := y
    obtain ⟨d, ed, rd⟩ := r.getV ex
    exact ⟨F2, d, ed, .refl e2, rd.mono e⟩
def dIterL (de : DEv) : DIv := fun ρ Φ Ξ => de ρ (fun x ρ1 => match x with
  | .lst ds => Φ ds ρ1
  | .fl ds => Φ ds ρ1
  | _ => False) Ξ
def dIterT (de : DEv) : DIv := fun ρ Φ Ξ => de ρ (fun x ρ1 => match x with
  | .tup ds => Φ ds ρ1
  | _ => False) Ξ
theorem di_list {tg e : Expr} {te : TE} {de : DEv} (h : DE X W e te de) : DI X W tg e (iList X.K te) (dIterL de) := by
  refine ⟨pi_list h.pe, fun C F H σ ρ Φ Ξ R hK J q k w => ?_⟩
  refine h.sim C F H σ ρ _ Ξ _ hK J q (fun v d ρ1 F1 H1 J1 e1 r1 q1 => ?_) w
  cases r1 with
  | @lst a vs ds hl rl => exact ⟨a, rfl, ⟨vs, SqL.of (J1.fh _ _ hl)⟩, k _ _ ρ1 F1 H1 J1 e1 (walks_list (SqL.of hl) rl) q1⟩
  | @fl a vs ds hl rl => exact ⟨a, rfl, ⟨vs, ext_l J1.fh hl⟩, k _ _ ρ1 F1 H1 J1 e1 (walks_list hl rl) q1⟩
  | _ => exact q1.elim
theorem di_tup {tg e : Expr} {te : TE} {de : DEv} (h : DE X W e te de) : DI X W tg e (iTup X.K te) (dIterT de) := by
  refine ⟨pi_tup h.pe, fun C F H σ ρ Φ Ξ R hK J q k w => ?_⟩
  refine h.sim C F H σ ρ _ Ξ _ hK J q (fun v d ρ1 F1 H1 J1 e1 r1 q1 => ?_) w
  cases r1 with
  | @tup a vs ds hl rl => exact ⟨a, rfl, ⟨vs, hl.sqt J1.fh⟩, k _ _ ρ1 F1 H1 J1 e1 (walks_tup hl rl) q1⟩
  | _ => exact q1.elim
end

/-! ### defs: what they promise over data -/
abbrev DSpec := List SV → (D → List SV → Prop) → XQ → Prop
def spOf (K : PySem.W.Frag) (S : DSpec) : Sp := fun vs H Q E => ∃ (C : Cc) (svs : List SV) (ret : D → List SV → Prop) (exc : XQ), C.K = K ∧ C.H0 = H ∧ I C C.F0 H (vs.map some) svs ∧ S svs ret exc ∧
  (∀ d svs', ret d svs' → ∀ v F' H', I C F' H' (vs.map some) svs' → Rep K F' v d → Q v H') ∧
  (∀ nm d svs', exc nm d svs' → ∀ cls dx F' H', I C F' H' (vs.map some) svs' → ExcRep K F' H' nm d cls dx → E cls dx H')
def SV.keepIo (s : SV) : SV := if s.io = true then s else .un
/-- what a caller gets back of the arguments -/
def outs (n : Nat) (ρ : List SV) : List SV := (ρ.take n).map SV.keepIo
/-- the slots at the entry -/
def start0 (n : Nat) (svs : List SV) : List SV := svs ++ List.replicate (n - svs.length) .un
theorem I.start {C : Cc} {F H : Hp} {vs : List V} {svs : List SV} {N : List Str} (J : I C F H (vs.map some) svs) (hn : vs.length ≤ N.length) : I C F H (L2.start N vs) (start0 N.length svs) := by
  have hl : vs.length = svs.length := by simpa using J.len
  have g : ∀ i, (L2.start N vs).getD i none = (vs.map some).getD i none := fun i => by
    unfold L2.start
    simp only [List.getD_eq_getElem?_getD, List.getElem?_append, List.getElem?_replicate]
    split
    · rfl
    · rename_i h
      rw [List.getElem?_eq_none (by simpa using h)]
      split <;> rfl
  have p : ∀ i sv, (start0 N.length svs)[i]? = some sv → svs[i]? = some sv ∨ sv = SV.un := fun i sv e => by
    unfold start0 at e
    rw [List.getElem?_append] at e
    split at e
    · exact .inl e
    · rw [List.getElem?_replicate] at e
      split at e
      · cases e; exact .inr rfl
      · cases e
  refine ⟨J.f0, J.fh, J.fr, J.kp, ?_, fun i sv e => ?_, fun i j a sv sv' e1 e2 o1 o2 q1 q2 => ?_, fun i a h => ?_⟩
  · unfold L2.start start0
    simp only [List.length_append, List.length_map, List.length_replicate]
    omega
  · rw [g]
    rcases p i sv e with z | z
    · exact J.sl i sv z
    · subst z; exact trivial
  · rw [g] at q1 q2
    have z1 : svs[i]? = some sv := by
      rcases p i sv e1 with z | z
      · exact z
      · subst z; cases o1
    have z2 : svs[j]? = some sv' := by
      rcases p j sv' e2 with z | z
      · exact z
      · subst z; cases o2
    exact J.ap i j a sv sv' z1 z2 o1 o2 q1 q2
  · obtain ⟨sv, e, q⟩ := J.ios i a h
    refine ⟨sv, ?_, q⟩
    unfold start0
    rw [List.getElem?_append_left (List.getElem?_eq_some_iff.mp e).1]
    exact e
/-- back to the caller -/
theorem I.back {C : Cc} {F H F' H' : Hp} {vs : List V} {svs ρ' : List SV} {σ' : L2.St} (J0 : I C F H (vs.map some) svs) (J : I C F' H' σ' ρ') (hn : svs.length ≤ ρ'.length) : I C F' H' (vs.map some) (outs svs.length ρ') := by
  have hl : vs.length = svs.length := by simpa using J0.len
  have p : ∀ i sv, (outs svs.length ρ')[i]? = some sv → i < svs.length ∧ ∃ s, ρ'[i]? = some s ∧ sv = s.keepIo := fun i sv e => by
    unfold outs at e
    rw [List.getElem?_map] at e
    cases z : (ρ'.take svs.length)[i]? with
    | none => rw [z] at e; cases e
    | some s =>
      rw [z] at e
      cases e
      rw [List.getElem?_take] at z
      split at z
      · rename_i h; exact ⟨h, s, z, rfl⟩
      · cases z
  have io : ∀ i s, ρ'[i]? = some s → s.io = true → ∃ a, σ'.getD i none = some (.ref a) ∧ (vs.map some).getD i none = some (.ref a) ∧ C.io i a := fun i s e h => by
    obtain ⟨a, e1, ⟨_, e3⟩, _⟩ := J.slo e (SV.own_of_io h)
    rw [h, if_pos rfl] at e3
    exact ⟨a, e1, (J0.ioat e3).1, e3⟩
  refine ⟨J.f0, J.fh, J.fr, J.kp, ?_, fun i sv e => ?_, fun i j a sv sv' e1 e2 o1 o2 q1 q2 => ?_, fun i a h => ?_⟩
  · unfold outs
    simp only [List.length_map, List.length_take]
    omega
  · obtain ⟨hi, s, es, rfl⟩ := p i sv e
    unfold SV.keepIo
    by_cases h : s.io = true
    · rw [if_pos h]
      obtain ⟨a, e1, e2, e3⟩ := io i s es h
      rw [e2, ← e1]
      exact J.sl i s es
    · rw [if_neg h]; trivial
  · obtain ⟨h1, s1, es1, rfl⟩ := p i sv e1
    obtain ⟨h2, s2, es2, rfl⟩ := p j sv' e2
    have i1 : s1.io = true := by
      unfold SV.keepIo at o1
      by_cases h : s1.io = true
      · exact h
      · rw [if_neg h] at o1; cases o1
    have i2 : s2.io = true := by
      unfold SV.keepIo at o2
      by_cases h : s2.io = true
      · exact h
      · rw [if_neg h] at o2; cases o2
    obtain ⟨a1, x1, y1, z1⟩ := io i s1 es1 i1
    obtain ⟨a2, x2, y2, z2⟩ := io j s2 es2 i2
    rw [y1] at q1; cases q1
    rw [y2] at q2; cases q2
    exact J.ap i j _ s1 s2 es1 es2 (SV.own_of_io i1) (SV.own_of_io i2) x1 x2
  · obtain ⟨sv0, e0, _⟩ := J0.ios i a h
    obtain ⟨sv, e, q⟩ := J.ios i a h
    refine ⟨sv, ?_, q⟩
    have hi : i < svs.length := (List.getElem?_eq_some_iff.mp e0).1
    unfold outs
    rw [List.getElem?_map, List.getElem?_take, if_pos hi, e]
    show some sv.keepIo = some sv
    unfold SV.keepIo
    rw [if_pos q]
theorem out_len {C : Cc} {F H : Hp} {σ : L2.St} {ρ : List SV} (J : I C F H σ ρ) : σ.length = ρ.length := J.len

section
variable {P : Program} {w : World} {K : PySem.W.Frag} {mg : Str → Option Value} {base : Heap}
/-- the wish about errors of a def -/
abbrev WD (E : XK) : WX := fun cls d _ H => E cls d H
/-- what a body's derivation may lean on -/
structure BodyOk (X : Cx) (W : WX) (k : Nat) (hot : Bool) : Prop where
  hr : Rm k X.A
  mo : Mo X hot
  tk : L2N.Takes X W
  pso : PassesOwn (model X.prog X.w) X.A X.env X.xe
theorem BodyOk.of {P : Program} {w : World} {K : PySem.W.Frag} {mg : Str → Option Value} {base : Heap} {N : List Str} {qual : Str} {scope : Scope} {f : Addr} {cdv : Value} {A : Around} {outer : List Env} {s : Shared} {H : Hp} {E : XK} {m : Option (Addr × Obj)} {k : Nat} {hot : Bool}
    (hr : Rm k (A.deeper (envOfC qual scope s.heap.objs.size f cdv))) (hm : m.isSome = true → hot = true) (mood : Mood A outer H s m) : BodyOk (cxU P w K mg base N qual scope f cdv A outer s H E m) (fun cls d _ H => E cls d H) k hot := by
  refine ⟨hr, ?_, L2N.takes_of rfl rfl rfl rfl, passes_of rfl⟩
  cases m with
  | none => exact .inl rfl
  | some p => exact .inr ⟨hm rfl, p, ⟨mood.1.1, mood.1.2⟩, List.mem_singleton.mpr rfl⟩
/-- THE RULE for a def over data -/
theorem fnD {x qual : Str} {params : Arguments} {body : List Stmt} {scope : Scope} {dvs : List V} {kws : List (Str × V)} {f : Addr} {fd : FuncData} {N ps : List Str} {k : Nat} {hot : Bool} {S : DSpec} {ds : DSv} (F : FunD K x qual params body scope dvs kws f fd) (Sc : FnScope N ps scope)
    (len : ∀ svs ret exc, S svs ret exc → svs.length = ps.length)
    (hbody : ∀ (cdv : Value) (A : Around) (outer : List Env) (s : Shared) (H : Hp) (E : XK) (m : Option (Addr × Obj)), BodyOk (cxU P w K mg base N qual scope f cdv A outer s H E m) (WD E) k hot →
      ∃ ts, DSs (cxU P w K mg base N qual scope f cdv A outer s H E m) (WD E) body ts ds)
    (hread : ∀ svs ret exc, S svs ret exc → ds { nx := fun ρ' => ∃ o, o.length = ps.length ∧ Weaks (outs ps.length ρ') o ∧ ret .non o, rt := fun d ρ' => ∃ o, o.length = ps.length ∧ Weaks (outs ps.length ρ') o ∧ ret d o, ex := fun nm d ρ' => ∃ o, o.length = ps.length ∧ Weaks (outs ps.length ρ') o ∧ exc nm d o } (start0 N.length svs)) :
    FnU P w K mg base hot (k + 1) f fd ps (spOf K S) := by
  have hpl : ps.length ≤ N.length := by have := congrArg List.length Sc.pre; rw [List.length_take] at this; omega
  refine FunD.okU F Sc (fun vs H Q E h => ?_) (fun cdv A outer s H vs Q E m hr hm mood h => ?_)
  · obtain ⟨C, svs, ret, exc, _, _, J, h, _, _⟩ := h
    have := J.len
    rw [List.length_map] at this
    rw [this]
    exact len svs _ _ h
  · obtain ⟨ts, B⟩ := hbody cdv A outer s H E m (BodyOk.of hr hm mood)
    refine ⟨_, B.ps, ?_⟩
    obtain ⟨C, svs, ret, exc, hK, rfl, J, h, hret, hexc⟩ := h
    have hl : vs.length = svs.length := by have := J.len; rwa [List.length_map] at this
    have hps : svs.length = ps.length := len svs _ _ h
    have J1 : I C C.F0 C.H0 (L2.start N vs) (start0 N.length svs) := J.start (by omega)
    have bk : ∀ {σ' ρ' F' H'} {o : List SV}, I C F' H' σ' ρ' → o.length = ps.length → Weaks (outs ps.length ρ') o → I C F' H' (vs.map some) o := fun {σ' ρ' F' H' o} J' e w => by
      have e2 := w.length
      unfold outs at e2
      rw [List.length_map, List.length_take, e] at e2
      have J2 := J.back J' (by omega)
      rw [hps] at J2
      exact J2.weak w
    refine B.sim C C.F0 C.H0 _ _ _ _ hK J1 (hread svs _ _ h) ⟨?_, ?_, fun _ _ _ _ _ _ z => z.elim, fun _ _ _ _ _ _ z => z.elim, ?_, fun _ _ _ _ _ _ _ _ _ _ _ _ z => z.elim⟩
    · intro σ' ρ' F' H' J' _ ⟨o, e, w, q⟩
      exact hret _ _ q .non F' H' (bk J' e w) .non
    · intro v d σ' ρ' F' H' J' _ r ⟨o, e, w, q⟩
      exact hret _ _ q v F' H' (bk J' e w) (by rw [← hK]; exact r)
    · intro σ' nm d ρ' cls dx F' H' J' _ x ⟨o, e, w, q⟩
      exact hexc _ _ _ q cls dx F' H' (bk J' e w) (by rw [← hK]; exact x)
/-! a def that hands out a new list -/
abbrev DSpecO := List SV → (List D → List SV → Prop) → XQ → Prop
def spOfO (K : PySem.W.Frag) (S : DSpecO) : Sp := fun vs H Q E => ∃ (C : Cc) (svs : List SV) (ret : List D → List SV → Prop) (exc : XQ), C.K = K ∧ C.H0 = H ∧ I C C.F0 H (vs.map some) svs ∧ S svs ret exc ∧
  (∀ xs svs', ret xs svs' → ∀ p ws F' H', I C F' H' (vs.map some) svs' → Tmp C F' H' (vs.map some) svs' p → H' p = some (.lst ws) → RepL K F' ws xs → Q (.ref p) H') ∧
  (∀ nm d svs', exc nm d svs' → ∀ cls dx F' H', I C F' H' (vs.map some) svs' → ExcRep K F' H' nm d cls dx → E cls dx H')
theorem Tmp.weak {C : Cc} {F H : Hp} {σ : L2.St} {ρ ρ' : List SV} {p : Addr} (T : Tmp C F H σ ρ p) (w : Weaks ρ ρ') : Tmp C F H σ ρ' p := ⟨T.nf, T.n0, fun i sv e o => by
  obtain ⟨s, e', h⟩ := w.get e
  exact T.ns i s e' (h.own_of o)⟩
theorem I.backT {C : Cc} {F H F' H' : Hp} {vs : List V} {svs ρ' : List SV} {σ' : L2.St} {p : Addr} (J0 : I C F H (vs.map some) svs) (J : I C F' H' σ' ρ') (T : Tmp C F' H' σ' ρ' p) : Tmp C F' H' (vs.map some) (outs svs.length ρ') p := by
  refine ⟨T.nf, T.n0, fun i sv e o z => ?_⟩
  unfold outs at e
  rw [List.getElem?_map] at e
  cases q : (ρ'.take svs.length)[i]? with
  | none => rw [q] at e; cases e
  | some s =>
    rw [q] at e
    cases e
    rw [List.getElem?_take] at q
    split at q
    · by_cases h : s.io = true
      · obtain ⟨a, e1, ⟨_, e3⟩, _⟩ := J.slo q (SV.own_of_io h)
        rw [h, if_pos rfl] at e3
        have e2 := (J0.ioat e3).1
        rw [e2] at z
        cases z
        exact T.ns i s q (SV.own_of_io h) e1
      · unfold SV.keepIo at o
        rw [if_neg h] at o
        cases o
    · cases q
theorem fnDO {x qual : Str} {params : Arguments} {body : List Stmt} {scope : Scope} {dvs : List V} {kws : List (Str × V)} {f : Addr} {fd : FuncData} {N ps : List Str} {k : Nat} {hot : Bool} {S : DSpecO} {ds : DSv} (F : FunD K x qual params body scope dvs kws f fd) (Sc : FnScope N ps scope)
    (len : ∀ svs ret exc, S svs ret exc → svs.length = ps.length)
    (hbody : ∀ (cdv : Value) (A : Around) (outer : List Env) (s : Shared) (H : Hp) (E : XK) (m : Option (Addr × Obj)), BodyOk (cxU P w K mg base N qual scope f cdv A outer s H E m) (WD E) k hot →
      ∃ ts, DSs (cxU P w K mg base N qual scope f cdv A outer s H E m) (WD E) body ts ds)
    (hread : ∀ svs ret exc, S svs ret exc → ds { nx := fun _ => False, rt := fun _ _ => False, ex := fun nm d ρ' => ∃ o, o.length = ps.length ∧ Weaks (outs ps.length ρ') o ∧ exc nm d o, ro := fun xs ρ' => ∃ o, o.length = ps.length ∧ Weaks (outs ps.length ρ') o ∧ ret xs o } (start0 N.length svs)) :
    FnU P w K mg base hot (k + 1) f fd ps (spOfO K S) := by
  have hpl : ps.length ≤ N.length := by have := congrArg List.length Sc.pre; rw [List.length_take] at this; omega
  refine FunD.okU F Sc (fun vs H Q E h => ?_) (fun cdv A outer s H vs Q E m hr hm mood h => ?_)
  · obtain ⟨C, svs, ret, exc, _, _, J, h, _, _⟩ := h
    have := J.len
    rw [List.length_map] at this
    rw [this]
    exact len svs _ _ h
  · obtain ⟨ts, B⟩ := hbody cdv A outer s H E m (BodyOk.of hr hm mood)
    refine ⟨_, B.ps, ?_⟩
    obtain ⟨C, svs, ret, exc, hK, rfl, J, h, hret, hexc⟩ := h
    have hl : vs.length = svs.length := by have := J.len; rwa [List.length_map] at this
    have hps : svs.length = ps.length := len svs _ _ h
    have J1 : I C C.F0 C.H0 (L2.start N vs) (start0 N.length svs) := J.start (by omega)
    have bk : ∀ {σ' ρ' F' H'} {o : List SV}, I C F' H' σ' ρ' → o.length = ps.length → Weaks (outs ps.length ρ') o → I C F' H' (vs.map some) o := fun {σ' ρ' F' H' o} J' e w => by
      have e2 := w.length
      unfold outs at e2
      rw [List.length_map, List.length_take, e] at e2
      have J2 := J.back J' (by omega)
      rw [hps] at J2
      exact J2.weak w
    refine B.sim C C.F0 C.H0 _ _ _ _ hK J1 (hread svs _ _ h) ⟨fun _ _ _ _ _ _ z => z.elim, fun _ _ _ _ _ _ _ _ _ z => z.elim, fun _ _ _ _ _ _ z => z.elim, fun _ _ _ _ _ _ z => z.elim, ?_, ?_⟩
    · intro σ' nm d ρ' cls dx F' H' J' _ x ⟨o, e, w, q⟩
      exact hexc _ _ _ q cls dx F' H' (bk J' e w) (by rw [← hK]; exact x)
    · intro p ws xs σ' ρ' F' H' J' _ T hp rl ⟨o, e, w, q⟩
      have T2 := J.backT J' T
      rw [hps] at T2
      exact hret _ _ q p ws F' H' (bk J' e w) (T2.weak w) hp (by rw [← hK]; exact rl)
end
end DL
namespace DL
open PySem PySem.Spec PyProof.Rows L2 DLU

/-! ### calls of the text's defs -/
def AV.isSl (i : Nat) : AV → Bool
  | .sl j => j == i
  | .d _ => false
def AV.sv (ρ : List SV) : AV → SV
  | .d x => .d x
  | .sl i => (ρ.getD i .un).setIo true
def AV.ok (ρ : List SV) : AV → Bool
  | .d _ => true
  | .sl i => (ρ.getD i .un).own
def slotsOf : List AV → List Nat
  | [] => []
  | .d _ :: r => slotsOf r
  | .sl i :: r => i :: slotsOf r
def putBack (ρ : List SV) (as : List AV) (svs : List SV) : List SV := ρ.mapIdx fun i s => match as.findIdx? (AV.isSl i) with
  | some j => (svs.getD j .un).setIo s.io
  | none => s
theorem slotsOf_mem : ∀ {as : List AV} {i : Nat}, i ∈ slotsOf as ↔ ∃ j : Nat, as[j]? = some (AV.sl i)
  | [], i => by simp [slotsOf]
  | .d x :: r, i => by
    rw [show slotsOf (.d x :: r) = slotsOf r from rfl, slotsOf_mem (as := r)]
    constructor
    · rintro ⟨j, e⟩; exact ⟨j + 1, by simpa using e⟩
    · rintro ⟨j, e⟩
      cases j with
      | zero => simp at e
      | succ j => exact ⟨j, by simpa using e⟩
  | .sl k :: r, i => by
    rw [show slotsOf (.sl k :: r) = k :: slotsOf r from rfl, List.mem_cons, slotsOf_mem (as := r)]
    constructor
    · rintro (rfl | ⟨j, e⟩)
      · exact ⟨0, rfl⟩
      · exact ⟨j + 1, by simpa using e⟩
    · rintro ⟨j, e⟩
      cases j with
      | zero => simp at e; exact .inl e.symm
      | succ j => exact .inr ⟨j, by simpa using e⟩
theorem slots_inj : ∀ {as : List AV} {i j k : Nat}, (slotsOf as).Nodup → as[j]? = some (.sl i) → as[k]? = some (.sl i) → j = k
  | [], i, j, k, _, e, _ => by simp at e
  | .d x :: r, i, j, k, nd, e1, e2 => by
    cases j with
    | zero => simp at e1
    | succ j =>
      cases k with
      | zero => simp at e2
      | succ k => exact congrArg (· + 1) (slots_inj (as := r) nd (by simpa using e1) (by simpa using e2))
  | .sl l :: r, i, j, k, nd, e1, e2 => by
    have nd' : (l :: slotsOf r).Nodup := nd
    rw [List.nodup_cons] at nd'
    cases j with
    | zero =>
      simp at e1; subst e1
      cases k with
      | zero => rfl
      | succ k => exact absurd (slotsOf_mem.mpr ⟨k, by simpa using e2⟩) nd'.1
    | succ j =>
      cases k with
      | zero => simp at e2; subst e2; exact absurd (slotsOf_mem.mpr ⟨j, by simpa using e1⟩) nd'.1
      | succ k => exact congrArg (· + 1) (slots_inj (as := r) nd'.2 (by simpa using e1) (by simpa using e2))
theorem find_some {as : List AV} {i j : Nat} (h : as.findIdx? (AV.isSl i) = some j) : as[j]? = some (.sl i) := by
  rw [List.findIdx?_eq_some_iff_getElem] at h
  obtain ⟨hj, h1, _⟩ := h
  rw [List.getElem?_eq_getElem hj]
  cases e : as[j] with
  | d x => rw [e] at h1; cases h1
  | sl k =>
    rw [e] at h1
    have : k = i := by simpa [AV.isSl] using h1
    rw [this]
theorem find_none {as : List AV} {i j : Nat} (h : as.findIdx? (AV.isSl i) = none) : as[j]? ≠ some (.sl i) := fun e => by
  rw [List.findIdx?_eq_none_iff] at h
  have := h (.sl i) (List.mem_of_getElem? e)
  simp [AV.isSl] at this
theorem putBack_get {ρ : List SV} {as : List AV} {svs : List SV} {i : Nat} {sv : SV} (e : (putBack ρ as svs)[i]? = some sv) : ∃ s, ρ[i]? = some s ∧ ((∃ j : Nat, as[j]? = some (AV.sl i) ∧ sv = (svs.getD j .un).setIo s.io) ∨ ((∀ j : Nat, as[j]? ≠ some (AV.sl i)) ∧ sv = s)) := by
  unfold putBack at e
  rw [List.getElem?_mapIdx] at e
  cases q : ρ[i]? with
  | none => rw [q] at e; cases e
  | some s =>
    rw [q] at e
    refine ⟨s, rfl, ?_⟩
    cases z : as.findIdx? (AV.isSl i) with
    | none =>
      rw [Option.map_some, z] at e
      exact .inr ⟨fun j => find_none z, (Option.some.inj e).symm⟩
    | some j =>
      rw [Option.map_some, z] at e
      exact .inl ⟨j, find_some z, (Option.some.inj e).symm⟩

section
variable {K : PySem.W.Frag} {C : Cc} {F H F' H' : Hp} {σ : L2.St} {ρ : List SV} {vs : List V} {as : List AV} {svs' : List SV}
theorem ArgsRep.len : ∀ {vs : List V} {as : List AV}, ArgsRep K F σ vs as → vs.length = as.length
  | _, _, .nil => rfl
  | _, _, .cons _ r => congrArg (· + 1) (ArgsRep.len r)
theorem ArgsRep.get : ∀ {vs : List V} {as : List AV} {i : Nat} {a : AV}, ArgsRep K F σ vs as → as[i]? = some a → ∃ v, vs[i]? = some v ∧ ArgRep K F σ v a
  | _, _, _, _, .nil, e => by simp at e
  | _, _, 0, _, .cons h _, e => by simp at e; subst e; exact ⟨_, rfl, h⟩
  | _, _, i + 1, _, .cons _ r, e => by
    obtain ⟨v, h1, h2⟩ := ArgsRep.get (i := i) r (by simpa using e)
    exact ⟨v, by simpa using h1, h2⟩
/-- the callee's entry -/
def callC (K : PySem.W.Frag) (F H : Hp) (σ : L2.St) (as : List AV) (nd : (slotsOf as).Nodup) : Cc where
  K := K
  F0 := F
  H0 := H
  io := fun j a => ∃ i : Nat, as[j]? = some (.sl i) ∧ σ.getD i none = some (V.ref a)
  iou := fun j a b ⟨i, e1, e2⟩ ⟨i', e1', e2'⟩ => by
    rw [e1] at e1'; cases e1'
    rw [e2] at e2'; cases e2'; rfl
theorem getD_of {α : Type} {l : List α} {i : Nat} {x d : α} (h : l[i]? = some x) : l.getD i d = x := by
  rw [List.getD_eq_getElem?_getD, h]; rfl
theorem I.enter (hK : C.K = K) (J : I C F H σ ρ) (r : ArgsRep K F σ vs as) (nd : (slotsOf as).Nodup) (ok : as.all (AV.ok ρ) = true) : I (callC K F H σ as nd) F H (vs.map some) (as.map (AV.sv ρ)) := by
  subst hK
  have own : ∀ (j i : Nat), as[j]? = some (AV.sl i) → ∃ (s : SV) (a : Addr), ρ[i]? = some s ∧ s.own = true ∧ σ.getD i none = some (V.ref a) ∧ vs[j]? = some (V.ref a) ∧ F a = none ∧ s.at C.K F H a ∧ ρ.getD i SV.un = s := fun j i e => by
    have h1 := List.all_eq_true.mp ok _ (List.mem_of_getElem? e)
    have h2 : (ρ.getD i .un).own = true := h1
    cases q : ρ[i]? with
    | none => rw [List.getD_eq_getElem?_getD, q] at h2; cases h2
    | some s =>
      rw [getD_of q] at h2
      obtain ⟨v, ev, rv⟩ := r.get e
      have rv' : σ[i]? = some (some v) := rv
      obtain ⟨a, e1, e2, e3, e4⟩ := J.ref q h2
      rw [e1] at rv'
      cases rv'
      exact ⟨s, a, rfl, h2, e2, ev, e3, e4, getD_of q⟩
  have el : ∀ (j : Nat) (sv : SV), (as.map (AV.sv ρ))[j]? = some sv → ∃ a : AV, as[j]? = some a ∧ sv = a.sv ρ := fun j sv e => by
    rw [List.getElem?_map] at e
    cases q : as[j]? with
    | none => rw [q] at e; cases e
    | some a => rw [q] at e; exact ⟨a, rfl, (Option.some.inj e).symm⟩
  refine ⟨.refl F, J.fh, fun a o e => .inl ⟨o, e⟩, fun a o e _ => e, by simp [r.len], fun j sv e => ?_, fun j k a sv sv' e1 e2 o1 o2 q1 q2 => ?_, fun j a h => ?_⟩
  · obtain ⟨a, ea, rfl⟩ := el j sv e
    cases a with
    | d x =>
      obtain ⟨v, ev, rv⟩ := r.get ea
      exact ⟨v, by rw [getD_of (by rw [List.getElem?_map, ev]; rfl)], rv⟩
    | sl i =>
      obtain ⟨s, a, es, ho, ea2, ev, nf, at_, gd⟩ := own j i ea
      have ho' : (AV.sv ρ (.sl i)).own = true := by
        show ((ρ.getD i .un).setIo true).own = true
        rw [gd, SV.own_setIo]; exact ho
      refine (slot_own ho').mpr ⟨a, getD_of (by rw [List.getElem?_map, ev]; rfl), ⟨nf, ?_⟩, ?_⟩
      · have : (AV.sv ρ (.sl i)).io = true := by
          show ((ρ.getD i .un).setIo true).io = true
          rw [gd, SV.io_setIo ho]
        rw [this, if_pos rfl]
        exact ⟨i, ea, ea2⟩
      · show SV.at C.K F H a ((ρ.getD i .un).setIo true)
        rw [gd]
        exact SV.at_setIo.mpr at_
  · obtain ⟨a1, ea1, rfl⟩ := el j sv e1
    obtain ⟨a2, ea2, rfl⟩ := el k sv' e2
    cases a1 with
    | d x => cases o1
    | sl i1 =>
      cases a2 with
      | d x => cases o2
      | sl i2 =>
        obtain ⟨s1, b1, es1, ho1, eb1, ev1, _⟩ := own j i1 ea1
        obtain ⟨s2, b2, es2, ho2, eb2, ev2, _⟩ := own k i2 ea2
        rw [getD_of (by rw [List.getElem?_map, ev1]; rfl)] at q1
        rw [getD_of (by rw [List.getElem?_map, ev2]; rfl)] at q2
        cases q1
        cases q2
        have : i1 = i2 := J.ap i1 i2 _ s1 s2 es1 es2 ho1 ho2 eb1 eb2
        subst this
        exact slots_inj nd ea1 ea2
  · obtain ⟨i, ea, ea2⟩ := h
    obtain ⟨s, b, es, ho, _, _, _, _, gd⟩ := own j i ea
    refine ⟨(ρ.getD i .un).setIo true, by rw [List.getElem?_map, ea]; rfl, ?_⟩
    rw [gd, SV.io_setIo ho]
theorem I.leave (hK : C.K = K) (J : I C F H σ ρ) {nd : (slotsOf as).Nodup} (ok : as.all (AV.ok ρ) = true) (J2 : I (callC K F H σ as nd) F' H' (vs.map some) svs') (lv : vs.length = as.length) : I C F' H' σ (putBack ρ as svs') ∧ Ext F F' := by
  subst hK
  have ownS : ∀ (j i : Nat), as[j]? = some (AV.sl i) → ∃ (s : SV) (a : Addr), ρ[i]? = some s ∧ s.own = true ∧ σ.getD i none = some (V.ref a) ∧ OwnP C F i s.io a ∧ s.at C.K F H a := fun j i e => by
    have h2 : (ρ.getD i .un).own = true := List.all_eq_true.mp ok _ (List.mem_of_getElem? e)
    cases q : ρ[i]? with
    | none => rw [List.getD_eq_getElem?_getD, q] at h2; cases h2
    | some s =>
      rw [getD_of q] at h2
      obtain ⟨a, e1, e2, e3⟩ := J.slo q h2
      exact ⟨s, a, rfl, h2, e1, e2, e3⟩
  have J2f : Ext F F' := J2.f0
  have nF : ∀ a, F a = none → H a ≠ none → F' a = none := fun a h1 h2 => by
    cases q : F' a with
    | none => rfl
    | some o =>
      rcases J2.fr a o q with ⟨o', z⟩ | z
      · have z' : F a = some o' := z
        rw [h1] at z'; cases z'
      · exact absurd z h2
  refine ⟨⟨J.f0.trans J2f, J2.fh, fun a o e => ?_, fun a o e n => ?_, ?_, fun i sv e => ?_, fun i j a sv sv' e1 e2 o1 o2 q1 q2 => ?_, fun i a h => ?_⟩, J2f⟩
  · rcases J2.fr a o e with ⟨o', z⟩ | z
    · exact J.fr a o' z
    · exact .inr (J.new z)
  · refine J2.kp a o (J.kp a o e n) fun j ⟨i, ea, es⟩ => ?_
    obtain ⟨s, b, es1, ho, eb, ⟨_, hio⟩, _⟩ := ownS j i ea
    rw [eb] at es; cases es
    by_cases z : s.io = true
    · rw [if_pos z] at hio; exact n i hio
    · rw [if_neg z] at hio; rw [hio] at e; cases e
  · unfold putBack; rw [List.length_mapIdx]; exact J.len
  · obtain ⟨s, es, ⟨j, ea, rfl⟩ | ⟨hno, rfl⟩⟩ := putBack_get e
    · obtain ⟨s', a, es', ho, eb, ⟨nf, hio⟩, at_⟩ := ownS j i ea
      rw [es] at es'; cases es'
      obtain ⟨ej, t, et, tio, tat⟩ := J2.ioat (i := j) (a := a) ⟨i, ea, eb⟩
      have eg : svs'.getD j .un = t := getD_of et
      rw [eg]
      have ho2 : (t.setIo s.io).own = true := by rw [SV.own_setIo]; exact SV.own_of_io tio
      obtain ⟨o', ho', _⟩ := SV.at_some at_
      refine (slot_own ho2).mpr ⟨a, eb, ⟨nF a nf (by rw [ho']; simp), ?_⟩, SV.at_setIo.mpr tat⟩
      rw [SV.io_setIo (SV.own_of_io tio)]
      exact hio
    · have q := J.sl i sv es
      by_cases ho : sv.own = true
      · obtain ⟨p, e1, ⟨e2, e3⟩, e4⟩ := (slot_own ho).mp q
        obtain ⟨o', ho', _⟩ := SV.at_some e4
        refine (slot_own ho).mpr ⟨p, e1, ⟨nF p e2 (by rw [ho']; simp), e3⟩, SV.at_mono J2f (fun u hu => J2.kp p u hu fun j ⟨i', ea, es'⟩ => ?_) e4⟩
        obtain ⟨s2, b, es2, ho2, eb, _, _⟩ := ownS j i' ea
        have : i = i' := J.ap i i' p sv s2 es es2 ho ho2 e1 es'
        subst this
        exact hno j ea
      · cases sv with
        | un => trivial
        | d x => obtain ⟨v, e1, rr⟩ := q; exact ⟨v, e1, rr.mono J2f⟩
        | ex _ _ _ _ _ => exact ⟨q.1, q.2.mono J2f⟩
        | _ => exact absurd rfl ho
  · have f : ∀ (i : Nat) (sv : SV), (putBack ρ as svs')[i]? = some sv → sv.own = true → ∃ s : SV, ρ[i]? = some s ∧ s.own = true := fun i sv e o => by
      obtain ⟨s, es, ⟨j, ea, rfl⟩ | ⟨hno, rfl⟩⟩ := putBack_get e
      · obtain ⟨s', a, es', ho, _⟩ := ownS j i ea
        rw [es] at es'; cases es'
        exact ⟨s, es, ho⟩
      · exact ⟨sv, es, o⟩
    obtain ⟨u1, f1, g1⟩ := f i sv e1 o1
    obtain ⟨u2, f2, g2⟩ := f j sv' e2 o2
    exact J.ap i j a u1 u2 f1 f2 g1 g2 q1 q2
  · obtain ⟨s, es, hs⟩ := J.ios i a h
    have hl : i < (putBack ρ as svs').length := by
      unfold putBack; rw [List.length_mapIdx]; exact (List.getElem?_eq_some_iff.mp es).1
    refine ⟨(putBack ρ as svs')[i], List.getElem?_eq_getElem hl, ?_⟩
    obtain ⟨s', es', ⟨j, ea, e⟩ | ⟨hno, e⟩⟩ := putBack_get (List.getElem?_eq_getElem hl)
    · rw [es] at es'; cases es'
      obtain ⟨s2, b, es2, ho, eb, _, _⟩ := ownS j i ea
      rw [e]
      obtain ⟨ej, t, et, tio, tat⟩ := J2.ioat (i := j) (a := b) ⟨i, ea, eb⟩
      rw [getD_of et, SV.io_setIo (SV.own_of_io tio)]
      exact hs
    · rw [es] at es'; cases es'
      rw [e]; exact hs
end

def vD : V → D
  | .bl b => .bl b | .int i => .int i | .str x => .str x | .ty n => .ty n | .ref a => .rf a | _ => .non
/-- a def of the text that keeps a promise over data; dvs: the defaults that a call leaves to it -/
def Fn (P : Program) (w : World) (K : PySem.W.Frag) (mg : Str → Option Value) (base : Heap) (hot : Bool) (x : Str) (k : Nat) (ps : List Str) (dvs : List V) (S : DSpec) : Prop :=
  ∃ f fd ds, FnU P w K mg base hot k f fd ps (spOf K S) ∧ mg x = some (.ref f) ∧ PySem.W.keepIn K (.ref f) = true ∧ Vals dvs ds ∧ Binds K fd ps ds ∧ ∀ F, RepL K F dvs (dvs.map vD)
def CallOk (X : Cx) (W : WX) : Prop := ∀ σ, PassesAt (CXn X.prog X.w) X σ (WE W σ)
theorem CallOk.of {X : Cx} {W : WX} (tk : L2N.Takes X W) : CallOk X W := fun σ => L2N.passAt tk σ
abbrev W0 : WX := fun _ _ _ _ => False
theorem CallOk.none {X : Cx} : CallOk X W0 := fun σ pins H s e s' _ h => by
  obtain ⟨_, _, _, _, _, _, _, _, _, _, _, _, z⟩ := h
  exact z.elim
def dCall (S : DSpec) (dvs : List D) (da : DAv) : DEv := fun ρ Φ Ξ => da ρ (fun as ρ1 =>
  if as.all (AV.ok ρ1) = true ∧ (slotsOf as).Nodup then S (as.map (AV.sv ρ1) ++ dvs.map SV.d) (fun d svs' => Φ d (putBack ρ1 as svs')) (fun nm d svs' => Ξ nm d (putBack ρ1 as svs')) else False) Ξ
theorem ArgsRep.app {K : PySem.W.Frag} {F : Hp} {σ : L2.St} : ∀ {vs : List V} {as : List AV} {ws : List V} {ds : List D}, ArgsRep K F σ vs as → RepL K F ws ds → ArgsRep K F σ (vs ++ ws) (as ++ ds.map AV.d)
  | _, _, [], [], .nil, .nil => .nil
  | _, _, _ :: _, _ :: _, .nil, .cons h r => .cons (a := .d _) h (ArgsRep.app (vs := []) (as := []) .nil r)
  | _, _, _, _, .cons h r, q => .cons h (ArgsRep.app r q)
theorem slotsOf_app : ∀ (as : List AV) (ds : List D), slotsOf (as ++ ds.map AV.d) = slotsOf as
  | [], [] => rfl
  | [], d :: ds => slotsOf_app [] ds
  | .d x :: as, ds => slotsOf_app as ds
  | .sl i :: as, ds => congrArg (i :: ·) (slotsOf_app as ds)
theorem find_app (i : Nat) (as : List AV) (ds : List D) : (as ++ ds.map AV.d).findIdx? (AV.isSl i) = as.findIdx? (AV.isSl i) := by
  rw [List.findIdx?_append]
  cases as.findIdx? (AV.isSl i) with
  | some j => rfl
  | none =>
    have : (ds.map AV.d).findIdx? (AV.isSl i) = none := by
      rw [List.findIdx?_eq_none_iff]
      intro x hx
      obtain ⟨y, _, rfl⟩ := List.mem_map.mp hx
      rfl
    rw [this]; rfl
theorem putBack_app (ρ : List SV) (as : List AV) (ds : List D) (svs : List SV) : putBack ρ (as ++ ds.map AV.d) svs = putBack ρ as svs := by
  unfold putBack
  congr 1
  funext i s
  rw [find_app]
section
variable {X : Cx} {W : WX}
theorem sim_call {K : PySem.W.Frag} {S : DSpec} {vs0 : List V} {dvs : List D} {ta : TA} {da : DAv} (hv : ∀ F, RepL K F vs0 dvs) (ha : SimA K W ta da) : SimE K W (tCallSD (spOf K S) vs0 (WE W) ta) (dCall S dvs da) := by
  intro C F H σ ρ Φ Ξ Q hK J q k w
  refine ha C F H σ ρ _ Ξ _ hK J q (fun vs as ρ1 F1 H1 J1 e1 r1 q1 => ?_) w
  by_cases z : as.all (AV.ok ρ1) = true ∧ (slotsOf as).Nodup
  · rw [if_pos z] at q1
    obtain ⟨z1, z2⟩ := z
    have nd : (slotsOf (as ++ dvs.map AV.d)).Nodup := by rw [slotsOf_app]; exact z2
    have ok : (as ++ dvs.map AV.d).all (AV.ok ρ1) = true := by
      rw [List.all_append, z1, Bool.true_and, List.all_eq_true]
      intro x hx
      obtain ⟨y, _, rfl⟩ := List.mem_map.mp hx
      rfl
    have r2 := r1.app (hv F1)
    have J2 := J1.enter hK r2 nd ok
    have ev : (as ++ dvs.map AV.d).map (AV.sv ρ1) = as.map (AV.sv ρ1) ++ dvs.map SV.d := by
      rw [List.map_append, List.map_map]; rfl
    rw [ev] at J2
    have fin : ∀ {F' H' svs'}, I (callC K F1 H1 σ (as ++ dvs.map AV.d) nd) F' H' ((vs ++ vs0).map some) svs' → I C F' H' σ (putBack ρ1 as svs') ∧ Ext F1 F' := fun {F' H' svs'} J3 => by
      have := J1.leave hK ok J3 r2.len
      rw [putBack_app] at this
      exact this
    refine ⟨callC K F1 H1 σ (as ++ dvs.map AV.d) nd, _, _, _, rfl, rfl, J2, q1, fun d svs' hd v F' H' J3 r3 => ?_, fun nm d svs' hd cls dx F' H' J3 x3 => ?_⟩
    · obtain ⟨J4, e4⟩ := fin J3
      exact k v d _ F' H' J4 (e1.trans e4) r3 hd
    · obtain ⟨J4, e4⟩ := fin J3
      exact w nm d _ cls dx F' H' J4 (e1.trans e4) (by rw [hK]; exact x3) hd
  · rw [if_neg z] at q1; exact q1.elim
end

section
variable {X : Cx} {W : WX}
theorem de_call {x : Str} {hot : Bool} {k k' : Nat} {ps : List Str} {dvs : List V} {dds : List D} {S : DSpec} {e : Expr} {es : List Expr} {ta : TA} {da : DAv} {p pos : Pos} (F : Fn X.prog X.w X.K X.mg X.base hot x k ps dvs S) (hr : Rm k' X.A) (mo : Mo X hot) (hx : CallOk X W) (ha : DA X W (e :: es) ta da) (hk : k ≤ k' := by decide) (hg : Gl X x := by rfl)
    (hdb : (x == ("__debug__" : Str)) = false := by decide) (he : starEach (e :: es) X.env = (false, eval e X.env) :: starEach es X.env := by rfl) (hpl : (backTo pos (starEach es X.env)).any (·.1) = false := by rfl) (hdd : dvs.map vD = dds := by rfl) : DE X W (.Call (.Name x p) (e :: es) [] pos) (tCallSD (spOf X.K S) dvs (WE W) ta) (dCall S dds da) := by
  subst hdd
  obtain ⟨f, fd, ds, G, gm, kp, hv, b, r⟩ := F
  exact ⟨pe_callU G (hr.mono hk) mo hg gm kp b hv hx ha.pa hdb he hpl, sim_call r ha.sim⟩
/-! a call without arguments -/
theorem de_call0 {x : Str} {hot : Bool} {k k' : Nat} {ps : List Str} {dvs : List V} {dds : List D} {S : DSpec} {p pos : Pos} (F : Fn X.prog X.w X.K X.mg X.base hot x k ps dvs S) (hr : Rm k' X.A) (mo : Mo X hot) (hx : CallOk X W) (hk : k ≤ k' := by decide) (hg : Gl X x := by rfl)
    (hdb : (x == ("__debug__" : Str)) = false := by decide) (hdd : dvs.map vD = dds := by rfl) : DE X W (.Call (.Name x p) [] [] pos) (tCallSD (spOf X.K S) dvs (WE W) tNil) (dCall S dds dNil) := by
  subst hdd
  obtain ⟨f, fd, ds, G, gm, kp, hv, b, r⟩ := F
  refine ⟨⟨fun pins s σ H Q I h => ?_⟩, sim_call r da_nil.sim⟩
  refine wpAny_Call_Name_kw (ld_glob I hg gm ?_ hdb)
  exact PySem.W.callWith_K0 I.kIn kp (runU (us := []) G (hr.mono hk) mo b hv (hx σ) I .nil h)
/-! a call that hands out a new list -/
def FnO (P : Program) (w : World) (K : PySem.W.Frag) (mg : Str → Option Value) (base : Heap) (hot : Bool) (x : Str) (k : Nat) (ps : List Str) (dvs : List V) (S : DSpecO) : Prop :=
  ∃ f fd ds, FnU P w K mg base hot k f fd ps (spOfO K S) ∧ mg x = some (.ref f) ∧ PySem.W.keepIn K (.ref f) = true ∧ Vals dvs ds ∧ Binds K fd ps ds ∧ ∀ F, RepL K F dvs (dvs.map vD)
def dCallO (S : DSpecO) (dvs : List D) (da : DAv) : DOv := fun ρ Φ Ξ => da ρ (fun as ρ1 =>
  if as.all (AV.ok ρ1) = true ∧ (slotsOf as).Nodup then S (as.map (AV.sv ρ1) ++ dvs.map SV.d) (fun xs svs' => Φ xs (putBack ρ1 as svs')) (fun nm d svs' => Ξ nm d (putBack ρ1 as svs')) else False) Ξ
theorem sim_callO {K : PySem.W.Frag} {S : DSpecO} {vs0 : List V} {dvs : List D} {ta : TA} {da : DAv} (hv : ∀ F, RepL K F vs0 dvs) (ha : SimA K W ta da) : SimO K W (tCallSD (spOfO K S) vs0 (WE W) ta) (dCallO S dvs da) := by
  intro C F H σ ρ Φ Ξ Q hK J q k w
  refine ha C F H σ ρ _ Ξ _ hK J q (fun vs as ρ1 F1 H1 J1 e1 r1 q1 => ?_) w
  by_cases z : as.all (AV.ok ρ1) = true ∧ (slotsOf as).Nodup
  · rw [if_pos z] at q1
    obtain ⟨z1, z2⟩ := z
    have nd : (slotsOf (as ++ dvs.map AV.d)).Nodup := by rw [slotsOf_app]; exact z2
    have ok : (as ++ dvs.map AV.d).all (AV.ok ρ1) = true := by
      rw [List.all_append, z1, Bool.true_and, List.all_eq_true]
      intro x hx
      obtain ⟨y, _, rfl⟩ := List.mem_map.mp hx
      rfl
    have r2 := r1.app (hv F1)
    have J2 := J1.enter hK r2 nd ok
    have ev : (as ++ dvs.map AV.d).map (AV.sv ρ1) = as.map (AV.sv ρ1) ++ dvs.map SV.d := by
      rw [List.map_append, List.map_map]; rfl
    rw [ev] at J2
    have fin : ∀ {F' H' svs'}, I (callC K F1 H1 σ (as ++ dvs.map AV.d) nd) F' H' ((vs ++ vs0).map some) svs' → I C F' H' σ (putBack ρ1 as svs') ∧ Ext F1 F' := fun {F' H' svs'} J3 => by
      have := J1.leave hK ok J3 r2.len
      rw [putBack_app] at this
      exact this
    refine ⟨callC K F1 H1 σ (as ++ dvs.map AV.d) nd, _, _, _, rfl, rfl, J2, q1, fun xs svs' hd p ws F' H' J3 T hp rl => ?_, fun nm d svs' hd cls dx F' H' J3 x3 => ?_⟩
    · obtain ⟨J4, e4⟩ := fin J3
      have hn : H1 p = none := T.n0
      refine k p ws xs _ F' H' J4 (e1.trans e4) ⟨T.nf, J1.new hn, fun i sv e o y => ?_⟩ hp rl hd
      have : ∃ s : SV, ρ1[i]? = some s ∧ s.own = true := by
        obtain ⟨s, es, ⟨j, ea, rfl⟩ | ⟨hno, rfl⟩⟩ := putBack_get e
        · have h2 : (ρ1.getD i .un).own = true := List.all_eq_true.mp z1 _ (List.mem_of_getElem? ea)
          rw [getD_of es] at h2
          exact ⟨s, es, h2⟩
        · exact ⟨sv, es, o⟩
      obtain ⟨s, es, ho⟩ := this
      obtain ⟨a, e5, _, e6⟩ := J1.slo es ho
      rw [e5] at y; cases y
      obtain ⟨o', e7, _⟩ := SV.at_some e6
      rw [hn] at e7; cases e7
    · obtain ⟨J4, e4⟩ := fin J3
      exact w nm d _ cls dx F' H' J4 (e1.trans e4) (by rw [hK]; exact x3) hd
  · rw [if_neg z] at q1; exact q1.elim
theorem do_call {x : Str} {hot : Bool} {k k' : Nat} {ps : List Str} {dvs : List V} {dds : List D} {S : DSpecO} {e : Expr} {es : List Expr} {ta : TA} {da : DAv} {p pos : Pos} (F : FnO X.prog X.w X.K X.mg X.base hot x k ps dvs S) (hr : Rm k' X.A) (mo : Mo X hot) (hx : CallOk X W) (ha : DA X W (e :: es) ta da) (hk : k ≤ k' := by decide) (hg : Gl X x := by rfl)
    (hdb : (x == ("__debug__" : Str)) = false := by decide) (he : starEach (e :: es) X.env = (false, eval e X.env) :: starEach es X.env := by rfl) (hpl : (backTo pos (starEach es X.env)).any (·.1) = false := by rfl) (hdd : dvs.map vD = dds := by rfl) : DO X W (.Call (.Name x p) (e :: es) [] pos) (tCallSD (spOfO X.K S) dvs (WE W) ta) (dCallO S dds da) := by
  subst hdd
  obtain ⟨f, fd, ds, G, gm, kp, hv, b, r⟩ := F
  exact ⟨pe_callU G (hr.mono hk) mo hg gm kp b hv hx ha.pa hdb he hpl, sim_callO r ha.sim⟩
end
end DL
namespace DL
open PySem PySem.Spec PyProof.Rows L2 DLU

/-! ### data as the library's data -/
mutual
def D.py : D → PyData
  | .non => .none
  | .bl b => .bool b
  | .int i => .int i
  | .str x => .str x
  | .tup xs => .tuple (D.pys xs)
  | .lst xs => .list (D.pys xs)
  | .fl xs => .list (D.pys xs)
  | .ty _ => .dict []
  | .rf _ => .dict []
  | .dk _ _ => .dict []
  | .dt _ _ => .dict []
def D.pys : List D → List PyData
  | [] => []
  | x :: xs => D.py x :: D.pys xs
end
theorem D.pys_map : ∀ xs : List D, D.pys xs = xs.map D.py
  | [] => rfl
  | x :: xs => by
    show D.py x :: D.pys xs = _
    rw [D.pys_map xs]; rfl
mutual
theorem rep_dp {K : PySem.W.Frag} {F H : Hp} (e : Ext F H) : ∀ {d : D} {v : V}, Rep K F v d → d.py.canLay0 = true → Dp K H v d.py
  | _, _, .non, _ => .non
  | _, _, .bl b, _ => .bl b
  | _, _, .int i, _ => .int i
  | _, _, .str x, _ => .str x
  | _, _, .ty n, h => by cases h
  | _, _, .rf a, h => by cases h
  | .tup ds, _, .tup hT r, h => .tup (hT.sqt e) (rep_dps e r h)
  | .lst ds, _, .lst hT r, h => .lst (SqL.of (e _ _ hT)) (rep_dps e r h)
  | .fl ds, _, .fl hT r, h => .lst (ext_l e hT) (rep_dps e r h)
  | _, _, .dk _ _ _, h => by cases h
  | _, _, .dt _ _ _, h => by cases h
theorem rep_dps {K : PySem.W.Frag} {F H : Hp} (e : Ext F H) : ∀ {ds : List D} {vs : List V}, RepL K F vs ds → PyData.canLayAll0 (D.pys ds) = true → DpAll K H vs (D.pys ds)
  | _, _, .nil, _ => .nil
  | d :: ds, _, .cons h r, q => by
    have q' : (PyData.canLay0 d.py && PyData.canLayAll0 (D.pys ds)) = true := q
    rw [Bool.and_eq_true] at q'
    exact .cons (rep_dp e h q'.1) (rep_dps e r q'.2)
end
/-- data that == and in may look at -/
def D.lay (d : D) : Bool := SeqAt.shaped d.py
theorem D.lay_can {d : D} (h : d.lay = true) : d.py.canLay0 = true := SeqAt.canLay_of_shaped h

section
variable {X : Cx} {W : WX} {K : PySem.W.Frag}
def dEq : D → D → (D → Prop) → Prop := fun x y Φ => x.lay = true ∧ y.lay = true ∧ Φ (.bl (PyData.eqv x.py y.py))
def dNe : D → D → (D → Prop) → Prop := fun x y Φ => x.lay = true ∧ y.lay = true ∧ Φ (.bl (!PyData.eqv x.py y.py))
theorem sim_eq : SimR K (rEqD K) dEq := fun F H x y a b Φ Q e rx ry h k => ⟨_, _, rep_dp e rx (D.lay_can h.1), rep_dp e ry (D.lay_can h.2.1), h.1, h.2.1, k _ _ F H (.refl e) (.bl _) h.2.2⟩
theorem sim_ne : SimR K (rNeD K) dNe := fun F H x y a b Φ Q e rx ry h k => ⟨_, _, rep_dp e rx (D.lay_can h.1), rep_dp e ry (D.lay_can h.2.1), h.1, h.2.1, k _ _ F H (.refl e) (.bl _) h.2.2⟩
theorem dt_eq {a b : Expr} {ta tb : TE} {da db : DEv} {k : Nat} {pos : Pos} (hr : Rm k X.A) (ha : DE X W a ta da) (hb : DE X W b tb db) : DT X W (.Compare a [.Eq] [b] pos) (tTest (tOp (rEqD X.K) ta tb)) (dTest (dOp dEq da db)) := dt_cmp (op_eqD hr.units) sim_eq ha hb (nomark _)
theorem dt_ne {a b : Expr} {ta tb : TE} {da db : DEv} {k : Nat} {pos : Pos} (hr : Rm k X.A) (ha : DE X W a ta da) (hb : DE X W b tb db) : DT X W (.Compare a [.NotEq] [b] pos) (tTest (tOp (rNeD X.K) ta tb)) (dTest (dOp dNe da db)) := dt_cmp (op_neD hr.units) sim_ne ha hb (nomark _)
theorem de_eq {a b : Expr} {ta tb : TE} {da db : DEv} {k : Nat} {pos : Pos} (hr : Rm k X.A) (ha : DE X W a ta da) (hb : DE X W b tb db) : DE X W (.Compare a [.Eq] [b] pos) (tOp (rEqD X.K) ta tb) (dOp dEq da db) := de_cmp (op_eqD hr.units) sim_eq ha hb (nomark _)
theorem de_ne {a b : Expr} {ta tb : TE} {da db : DEv} {k : Nat} {pos : Pos} (hr : Rm k X.A) (ha : DE X W a ta da) (hb : DE X W b tb db) : DE X W (.Compare a [.NotEq] [b] pos) (tOp (rNeD X.K) ta tb) (dOp dNe da db) := de_cmp (op_neD hr.units) sim_ne ha hb (nomark _)
/-! orders of whole numbers -/
abbrev dLt := dI0 fun i j => .bl (decide (i < j))
abbrev dLe := dI0 fun i j => .bl (decide (i ≤ j))
abbrev dGt := dI0 fun i j => .bl (decide (j < i))
abbrev dGe := dI0 fun i j => .bl (decide (j ≤ i))
section
variable {a b : Expr} {ta tb : TE} {da db : DEv} {pos : Pos}
theorem dt_lt (ha : DE X W a ta da) (hb : DE X W b tb db) : DT X W (.Compare a [.Lt] [b] pos) (tTest (tOp (rI0 fun i j => .bl (decide (i < j))) ta tb)) (dTest (dOp dLt da db)) := dt_cmp op_lt simB0 ha hb (nomark _)
theorem dt_le (ha : DE X W a ta da) (hb : DE X W b tb db) : DT X W (.Compare a [.LtE] [b] pos) (tTest (tOp (rI0 fun i j => .bl (decide (i ≤ j))) ta tb)) (dTest (dOp dLe da db)) := dt_cmp op_le simB0 ha hb (nomark _)
theorem dt_gt (ha : DE X W a ta da) (hb : DE X W b tb db) : DT X W (.Compare a [.Gt] [b] pos) (tTest (tOp (rI0 fun i j => .bl (decide (j < i))) ta tb)) (dTest (dOp dGt da db)) := dt_cmp op_gt simB0 ha hb (nomark _)
theorem dt_ge (ha : DE X W a ta da) (hb : DE X W b tb db) : DT X W (.Compare a [.GtE] [b] pos) (tTest (tOp (rI0 fun i j => .bl (decide (j ≤ i))) ta tb)) (dTest (dOp dGe da db)) := dt_cmp op_ge simB0 ha hb (nomark _)
theorem de_lt (ha : DE X W a ta da) (hb : DE X W b tb db) : DE X W (.Compare a [.Lt] [b] pos) (tOp (rI0 fun i j => .bl (decide (i < j))) ta tb) (dOp dLt da db) := de_cmp op_lt simB0 ha hb (nomark _)
theorem de_le (ha : DE X W a ta da) (hb : DE X W b tb db) : DE X W (.Compare a [.LtE] [b] pos) (tOp (rI0 fun i j => .bl (decide (i ≤ j))) ta tb) (dOp dLe da db) := de_cmp op_le simB0 ha hb (nomark _)
theorem de_gt (ha : DE X W a ta da) (hb : DE X W b tb db) : DE X W (.Compare a [.Gt] [b] pos) (tOp (rI0 fun i j => .bl (decide (j < i))) ta tb) (dOp dGt da db) := de_cmp op_gt simB0 ha hb (nomark _)
theorem de_ge (ha : DE X W a ta da) (hb : DE X W b tb db) : DE X W (.Compare a [.GtE] [b] pos) (tOp (rI0 fun i j => .bl (decide (j ≤ i))) ta tb) (dOp dGe da db) := de_cmp op_ge simB0 ha hb (nomark _)
end
/-! is -/
def isNon : D → Bool
  | .non => true
  | _ => false
theorem rep_non {F : Hp} {v : V} {d : D} (r : Rep K F v d) : decide (v = .non) = isNon d := by
  cases r <;> rfl
def dIsN : D → D → (D → Prop) → Prop := fun x y Φ => match y with
  | .non => Φ (.bl (isNon x))
  | _ => False
def dNotN : D → D → (D → Prop) → Prop := fun x y Φ => match y with
  | .non => Φ (.bl (!isNon x))
  | _ => False
theorem sim_isN : SimR K (fun x y H Q => y = .non ∧ Q (.bl (decide (x = .non))) H) dIsN := by
  intro F H x y a b Φ Q e rx ry h k
  cases ry with
  | non => exact ⟨rfl, by rw [rep_non rx]; exact k _ _ F H (.refl e) (.bl _) h⟩
  | _ => exact h.elim
theorem sim_notN : SimR K (fun x y H Q => y = .non ∧ Q (.bl (!decide (x = .non))) H) dNotN := by
  intro F H x y a b Φ Q e rx ry h k
  cases ry with
  | non => exact ⟨rfl, by rw [rep_non rx]; exact k _ _ F H (.refl e) (.bl _) h⟩
  | _ => exact h.elim
def dIsB : D → D → (D → Prop) → Prop := fun x y Φ => match x, y with
  | .bl a, .bl b => Φ (.bl (decide (a = b)))
  | _, _ => False
def dNotB : D → D → (D → Prop) → Prop := fun x y Φ => match x, y with
  | .bl a, .bl b => Φ (.bl (!decide (a = b)))
  | _, _ => False
theorem sim_isB : SimR K rIsB dIsB := by
  intro F H x y a b Φ Q e rx ry h k
  unfold dIsB at h
  split at h
  · cases rx; cases ry; exact ⟨_, _, rfl, rfl, k _ _ F H (.refl e) (.bl _) h⟩
  · exact h.elim
theorem sim_notB : SimR K rNotB dNotB := by
  intro F H x y a b Φ Q e rx ry h k
  unfold dNotB at h
  split at h
  · cases rx; cases ry; exact ⟨_, _, rfl, rfl, k _ _ F H (.refl e) (.bl _) h⟩
  · exact h.elim
section
variable {a b : Expr} {ta tb : TE} {da db : DEv} {pos : Pos}
theorem dt_isN (ha : DE X W a ta da) (hb : DE X W b tb db) : DT X W (.Compare a [.Is] [b] pos) (tTest (tOp (fun x y H Q => y = .non ∧ Q (.bl (decide (x = .non))) H) ta tb)) (dTest (dOp dIsN da db)) := dt_cmp op_isN sim_isN ha hb (nomark _)
theorem dt_notN (ha : DE X W a ta da) (hb : DE X W b tb db) : DT X W (.Compare a [.IsNot] [b] pos) (tTest (tOp (fun x y H Q => y = .non ∧ Q (.bl (!decide (x = .non))) H) ta tb)) (dTest (dOp dNotN da db)) := dt_cmp op_notN sim_notN ha hb (nomark _)
theorem de_isN (ha : DE X W a ta da) (hb : DE X W b tb db) : DE X W (.Compare a [.Is] [b] pos) (tOp (fun x y H Q => y = .non ∧ Q (.bl (decide (x = .non))) H) ta tb) (dOp dIsN da db) := de_cmp op_isN sim_isN ha hb (nomark _)
theorem de_notN (ha : DE X W a ta da) (hb : DE X W b tb db) : DE X W (.Compare a [.IsNot] [b] pos) (tOp (fun x y H Q => y = .non ∧ Q (.bl (!decide (x = .non))) H) ta tb) (dOp dNotN da db) := de_cmp op_notN sim_notN ha hb (nomark _)
theorem dt_isB (ha : DE X W a ta da) (hb : DE X W b tb db) : DT X W (.Compare a [.Is] [b] pos) (tTest (tOp rIsB ta tb)) (dTest (dOp dIsB da db)) := dt_cmp op_isBl sim_isB ha hb (nomark _)
theorem dt_notB (ha : DE X W a ta da) (hb : DE X W b tb db) : DT X W (.Compare a [.IsNot] [b] pos) (tTest (tOp rNotB ta tb)) (dTest (dOp dNotB da db)) := dt_cmp op_notBl sim_notB ha hb (nomark _)
theorem de_isB (ha : DE X W a ta da) (hb : DE X W b tb db) : DE X W (.Compare a [.Is] [b] pos) (tOp rIsB ta tb) (dOp dIsB da db) := de_cmp op_isBl sim_isB ha hb (nomark _)
theorem de_notB (ha : DE X W a ta da) (hb : DE X W b tb db) : DE X W (.Compare a [.IsNot] [b] pos) (tOp rNotB ta tb) (dOp dNotB da db) := de_cmp op_notBl sim_notB ha hb (nomark _)
end
/-! in -/
def rInS (K : PySem.W.Frag) (neg : Bool) : R2 := fun x y H Q => ∃ d ds, Dp K H x d ∧ (Dp K H y (.list ds) ∨ Dp K H y (.tuple ds)) ∧ SeqAt.shaped d = true ∧ SeqAt.shaped (.list ds) = true ∧ Q (.bl (if neg = true then !(ds.any fun z => PyData.eqv z d) else ds.any fun z => PyData.eqv z d)) H
theorem op_inSeq (hu : X.A.units + 65 < cLine) : OpR X (compareOp .In) (rInS X.K false) := by
  intro pins s σ H x y v u Q J rx ry h
  obtain ⟨d, ds, hd, he | he, sd, se, q⟩ := h
  · exact op_inD hu pins s σ H x y v u Q J rx ry ⟨d, ds, hd, he, sd, se, q⟩
  · obtain ⟨as, r1⟩ := Dp.reads J d x v hd rx
    obtain ⟨bs, r2⟩ := Dp.reads J (.tuple ds) y u he ry
    exact SeqAt.in_tuple_reads r2 r1 (SeqAt.canLay_of_shaped se) (SeqAt.canLay_of_shaped sd) (room_in_shaped sd hu) ⟨.bl _, H, J, rfl, q⟩
theorem op_notInSeq (hu : X.A.units + 65 < cLine) : OpR X (compareOp .NotIn) (rInS X.K true) := by
  intro pins s σ H x y v u Q J rx ry h
  obtain ⟨d, ds, hd, he | he, sd, se, q⟩ := h
  · exact op_notInD hu pins s σ H x y v u Q J rx ry ⟨d, ds, hd, he, sd, se, q⟩
  · obtain ⟨as, r1⟩ := Dp.reads J d x v hd rx
    obtain ⟨bs, r2⟩ := Dp.reads J (.tuple ds) y u he ry
    exact SeqAt.notIn_tuple_reads r2 r1 (SeqAt.canLay_of_shaped se) (SeqAt.canLay_of_shaped sd) (room_in_shaped sd hu) ⟨.bl _, H, J, rfl, q⟩
/-- the items of a list or tuple -/
def D.items : D → Option (List D)
  | .lst xs => some xs
  | .fl xs => some xs
  | .tup xs => some xs
  | _ => none
def dInB (neg : Bool) (x : D) (xs : List D) : Bool := if neg = true then !(xs.any fun z => PyData.eqv z.py x.py) else xs.any fun z => PyData.eqv z.py x.py
def dIn (neg : Bool) : D → D → (D → Prop) → Prop := fun x y Φ => match y.items with
  | some xs => x.lay = true ∧ D.lay (.lst xs) = true ∧ Φ (.bl (dInB neg x xs))
  | none => False
theorem sim_in {neg : Bool} : SimR K (rInS K neg) (dIn neg) := by
  intro F H x y a b Φ Q e rx ry h k
  have fin : ∀ xs, dInB neg a xs = (if neg = true then !((D.pys xs).any fun z => PyData.eqv z a.py) else (D.pys xs).any fun z => PyData.eqv z a.py) := fun xs => by
    unfold dInB
    rw [D.pys_map, List.any_map]
    rfl
  cases ry with
  | @lst p vs ds hl rl =>
    have h' : a.lay = true ∧ D.lay (.lst ds) = true ∧ Φ (.bl (dInB neg a ds)) := h
    refine ⟨a.py, D.pys ds, rep_dp e rx (D.lay_can h'.1), .inl (rep_dp (d := .lst ds) e (.lst hl rl) (D.lay_can h'.2.1)), h'.1, h'.2.1, k _ _ F H (.refl e) (.bl _) ?_⟩
    rw [← fin]; exact h'.2.2
  | @fl p vs ds hl rl =>
    have h' : a.lay = true ∧ D.lay (.lst ds) = true ∧ Φ (.bl (dInB neg a ds)) := h
    refine ⟨a.py, D.pys ds, rep_dp e rx (D.lay_can h'.1), .inl (rep_dp (d := .fl ds) e (.fl hl rl) (D.lay_can h'.2.1)), h'.1, h'.2.1, k _ _ F H (.refl e) (.bl _) ?_⟩
    rw [← fin]; exact h'.2.2
  | @tup p vs ds hl rl =>
    have h' : a.lay = true ∧ D.lay (.lst ds) = true ∧ Φ (.bl (dInB neg a ds)) := h
    refine ⟨a.py, D.pys ds, rep_dp e rx (D.lay_can h'.1), .inr (rep_dp (d := .tup ds) e (.tup hl rl) (D.lay_can h'.2.1)), h'.1, h'.2.1, k _ _ F H (.refl e) (.bl _) ?_⟩
    rw [← fin]; exact h'.2.2
  | _ => exact h.elim
section
variable {a b : Expr} {ta tb : TE} {da db : DEv} {pos : Pos} {k : Nat}
theorem dt_in (hr : Rm k X.A) (ha : DE X W a ta da) (hb : DE X W b tb db) (hm : behindInMarks .In b = false := by rfl) : DT X W (.Compare a [.In] [b] pos) (tTest (tOp (rInS X.K false) ta tb)) (dTest (dOp (dIn false) da db)) := dt_cmp (op_inSeq (by have := hr.un; omega)) sim_in ha hb hm
theorem dt_notIn (hr : Rm k X.A) (ha : DE X W a ta da) (hb : DE X W b tb db) (hm : behindInMarks .NotIn b = false := by rfl) : DT X W (.Compare a [.NotIn] [b] pos) (tTest (tOp (rInS X.K true) ta tb)) (dTest (dOp (dIn true) da db)) := dt_cmp (op_notInSeq (by have := hr.un; omega)) sim_in ha hb hm
theorem de_in (hr : Rm k X.A) (ha : DE X W a ta da) (hb : DE X W b tb db) (hm : behindInMarks .In b = false := by rfl) : DE X W (.Compare a [.In] [b] pos) (tOp (rInS X.K false) ta tb) (dOp (dIn false) da db) := de_cmp (op_inSeq (by have := hr.un; omega)) sim_in ha hb hm
theorem de_notIn (hr : Rm k X.A) (ha : DE X W a ta da) (hb : DE X W b tb db) (hm : behindInMarks .NotIn b = false := by rfl) : DE X W (.Compare a [.NotIn] [b] pos) (tOp (rInS X.K true) ta tb) (dOp (dIn true) da db) := de_cmp (op_notInSeq (by have := hr.un; omega)) sim_in ha hb hm
end
/-! ### + - * // % -/
def rAddA (K : PySem.W.Frag) : R2 := fun x y H Q => (rI0 (fun i j => .int (i + j)) x y H Q ∨ rCatA K x y H Q) ∨ (rCat x y H Q ∨ ∃ i j, x = .str i ∧ y = .str j ∧ i.length + j.length ≤ 16777216 ∧ Q (.str (i ++ j)) H)
theorem op_addStr : OpR X (binaryOp .Add) (fun x y H Q => ∃ i j, x = .str i ∧ y = .str j ∧ i.length + j.length ≤ 16777216 ∧ Q (.str (i ++ j)) H) := by
  intro pins s σ H x y v u Q J rx ry h
  exact op_add_str pins s σ H x y v u Q J rx ry (by obtain ⟨i, j, e1, e2, hl, q⟩ := h; exact ⟨i, j, e1, e2, hl, q⟩)
theorem op_addA : OpR X (binaryOp .Add) (rAddA X.K) := OpR.or (OpR.or op_add op_catA) (OpR.or op_cat op_addStr)
def dAdd : D → D → (D → Prop) → Prop := fun x y Φ => match x, y with
  | .int i, .int j => Φ (.int (i + j))
  | .tup xs, .tup ys => xs.length + ys.length ≤ 1000000 ∧ Φ (.tup (xs ++ ys))
  | .lst xs, .lst ys => xs.length + ys.length ≤ 1000000 ∧ Φ (.lst (xs ++ ys))
  | .str a, .str b => a.length + b.length ≤ 1000000 ∧ Φ (.str (a ++ b))
  | _, _ => False
theorem sim_add : SimR K (rAddA K) dAdd := by
  intro F H x y a b Φ Q e rx ry h k
  unfold dAdd at h
  split at h
  · cases rx; cases ry
    exact .inl (.inl ⟨_, _, rfl, rfl, k _ _ F H (.refl e) (.int _) h⟩)
  · rename_i xs ys
    cases rx with
    | @tup p vs _ hx rlx =>
      cases ry with
      | @tup q ws _ hy rly =>
        have l1 := rlx.length
        have l2 := rly.length
        refine .inl (.inr ⟨p, q, vs, ws, rfl, rfl, hx.sqt e, hy.sqt e, size_of (by omega), fun z => ?_, fun z1 z2 => ?_, fun z1 z2 r nr => ?_⟩)
        · subst z
          cases rlx
          exact k _ _ F H (.refl e) (.tup hy rly) (by simpa using h.2)
        · subst z2
          cases rly
          exact k _ _ F H (.refl e) (.tup hx rlx) (by simpa using h.2)
        · have g := Grow.new (o := .tup (vs ++ ws)) e nr
          exact k _ _ _ _ g (.tup (.inl upd_same) ((rlx.append rly).mono g.ff)) h.2
  · rename_i xs ys
    cases rx with
    | @lst p vs _ hx rlx =>
      cases ry with
      | @lst q ws _ hy rly =>
        have l1 := rlx.length
        have l2 := rly.length
        refine .inr (.inl ⟨p, q, vs, ws, rfl, rfl, e _ _ hx, e _ _ hy, size_of (by omega), fun r nr => ?_⟩)
        have g := Grow.new (o := .lst (vs ++ ws)) e nr
        exact k _ _ _ _ g (.lst upd_same ((rlx.append rly).mono g.ff)) h.2
  · cases rx; cases ry
    exact .inr (.inr ⟨_, _, rfl, rfl, Nat.le_trans h.1 (by decide), k _ _ F H (.refl e) (.str _) h.2⟩)
  · exact h.elim
section
variable {a b : Expr} {ta tb : TE} {da db : DEv} {pos : Pos}
theorem de_add (ha : DE X W a ta da) (hb : DE X W b tb db) : DE X W (.BinOp a .Add b pos) (tOp (rAddA X.K) ta tb) (dOp dAdd da db) := de_bin op_addA sim_add ha hb
theorem de_sub (ha : DE X W a ta da) (hb : DE X W b tb db) : DE X W (.BinOp a .Sub b pos) (tOp (rI0 fun i j => .int (i - j)) ta tb) (dOp (dI0 fun i j => .int (i - j)) da db) := de_bin op_sub simI0 ha hb
theorem de_mul (ha : DE X W a ta da) (hb : DE X W b tb db) : DE X W (.BinOp a .Mult b pos) (tOp (rI CMul fun i j => .int (i * j)) ta tb) (dOp (dI2 CMul fun i j => .int (i * j)) da db) := de_bin op_mul simI ha hb
theorem de_fdiv (ha : DE X W a ta da) (hb : DE X W b tb db) : DE X W (.BinOp a .FloorDiv b pos) (tOp (rI CDiv fun i j => .int (i / j)) ta tb) (dOp (dI2 CDiv fun i j => .int (i / j)) da db) := de_bin op_fdiv simI ha hb
theorem de_mod (ha : DE X W a ta da) (hb : DE X W b tb db) : DE X W (.BinOp a .Mod b pos) (tOp (rI (fun _ j => 0 < j) fun i j => .int (i % j)) ta tb) (dOp (dI2 (fun _ j => 0 < j) fun i j => .int (i % j)) da db) := de_bin op_mod simI ha hb
theorem de_pow (ha : DE X W a ta da) (hb : DE X W b tb db) : DE X W (.BinOp a .Pow b pos) (tOp (rI CPow fun i j => .int (i ^ j.toNat)) ta tb) (dOp (dI2 CPow fun i j => .int (i ^ j.toNat)) da db) := de_bin op_pow simI ha hb
end
/-- -n -/
def dNeg (da : DEv) : DEv := fun ρ Φ Ξ => da ρ (fun x ρ1 => match x with
  | .int i => Φ (.int (-i)) ρ1
  | _ => False) Ξ
theorem de_neg {a : Expr} {ta : TE} {da : DEv} {pos : Pos} (ha : DE X W a ta da) : DE X W (.UnaryOp .USub a pos) (tUn (rU fun i => .int (-i)) ta) (dNeg da) := by
  refine ⟨pe_un un_neg ha.pe, fun C F H σ ρ Φ Ξ Q hK J q k w => ?_⟩
  refine ha.sim C F H σ ρ _ Ξ _ hK J q (fun v d ρ1 F1 H1 J1 e1 r1 q1 => ?_) w
  cases r1 with
  | int i => exact ⟨i, rfl, k _ _ ρ1 F1 H1 J1 e1 (.int _) q1⟩
  | _ => exact q1.elim

/-! ### places -/
def dIx : D → D → (D → Prop) → Prop := fun x y Φ => match x, y with
  | .tup xs, .int i => (match atI xs i with
    | some d => Φ d
    | none => False)
  | .lst xs, .int i => (match atI xs i with
    | some d => Φ d
    | none => False)
  | .fl xs, .int i => (match atI xs i with
    | some d => Φ d
    | none => False)
  | .str z, .int i => z.length ≤ 1000000 ∧ (match atI z.cps.toList i with
    | some c => Φ (.str ⟨#[c]⟩)
    | none => False)
  | _, _ => False
theorem atI_rep {F : Hp} {vs : List V} {ds : List D} {i : Int} {d : D} (r : RepL K F vs ds) (h : atI ds i = some d) : ∃ v, atI vs i = some v ∧ Rep K F v d := by
  unfold atI at h ⊢
  rw [r.length]
  cases q : ixN ds.length i with
  | none => rw [q] at h; cases h
  | some j =>
    rw [q] at h
    exact r.get h
theorem sim_ix : SimR K (rIx K) dIx := by
  intro F H x y a b Φ Q e rx ry h k
  unfold dIx at h
  split at h
  · rename_i xs i
    cases rx with
    | @tup p vs _ hx rl =>
      cases ry
      split at h
      · rename_i d q
        obtain ⟨v, ev, rv⟩ := atI_rep rl q
        exact .inr (.inl ⟨p, vs, i, v, rfl, rfl, hx.sqt e, ev, k v d F H (.refl e) rv h⟩)
      · exact h.elim
  · rename_i xs i
    cases rx with
    | @lst p vs _ hx rl =>
      cases ry
      split at h
      · rename_i d q
        obtain ⟨v, ev, rv⟩ := atI_rep rl q
        exact .inl ⟨p, vs, i, v, rfl, rfl, SqL.of (e _ _ hx), ev, k v d F H (.refl e) rv h⟩
      · exact h.elim
  · rename_i xs i
    cases rx with
    | @fl p vs _ hx rl =>
      cases ry
      split at h
      · rename_i d q
        obtain ⟨v, ev, rv⟩ := atI_rep rl q
        exact .inl ⟨p, vs, i, v, rfl, rfl, ext_l e hx, ev, k v d F H (.refl e) rv h⟩
      · exact h.elim
  · rename_i z i
    cases rx; cases ry
    obtain ⟨hz, h⟩ := h
    split at h
    · rename_i c q
      exact .inr (.inr ⟨z, i, c, rfl, rfl, size_of hz, q, k _ _ F H (.refl e) (.str _) h⟩)
    · exact h.elim
  · exact h.elim
theorem de_ix {a b : Expr} {ta tb : TE} {da db : DEv} {pos : Pos} (ha : DE X W a ta da) (hb : DE X W b tb db) (hs : PlainIx b := by exact fun _ _ => rfl) : DE X W (.Subscript a b pos) (tOp (rIx X.K) ta tb) (dOp dIx da db) := ⟨pe_ix ix_seq ha.pe hb.pe hs, sim_op sim_ix ha.sim hb.sim⟩
/-! slices -/
abbrev DPv := List SV → (Option Int → List SV → Prop) → XQ → Prop
def SimP (K : PySem.W.Frag) (W : WX) (t : TO) (d : DPv) : Prop := ∀ (C : Cc) (F H : Hp) (σ : L2.St) (ρ : List SV) (Φ : Option Int → List SV → Prop) (Ξ : XQ) (Q : Option Int → Hp → Prop), C.K = K → I C F H σ ρ → d ρ Φ Ξ →
  (∀ o ρ' F' H', I C F' H' σ ρ' → Ext F F' → Φ o ρ' → Q o H') → WOk W C F σ Ξ → t σ H Q
structure DP (X : Cx) (W : WX) (e : Option Expr) (t : TO) (d : DPv) : Prop where
  po : PO X e t
  sim : SimP X.K W t d
def dNoPart : DPv := fun ρ Φ _ => Φ none ρ
def dPart (de : DEv) : DPv := fun ρ Φ Ξ => de ρ (fun x ρ1 => match x with
  | .int i => Φ (some i) ρ1
  | _ => False) Ξ
theorem dp_none : DP X W none tNoPart dNoPart := ⟨po_none, fun C F H σ ρ Φ Ξ Q hK J h k _ => k none ρ F H J (.refl F) h⟩
theorem dp_some {e : Expr} {te : TE} {de : DEv} (h : DE X W e te de) : DP X W (some e) (tPart te) (dPart de) := by
  refine ⟨po_some h.pe, fun C F H σ ρ Φ Ξ Q hK J q k w => ?_⟩
  refine h.sim C F H σ ρ _ Ξ _ hK J q (fun v d ρ1 F1 H1 J1 e1 r1 q1 => ?_) w
  cases r1 with
  | int i => exact ⟨i, rfl, k _ ρ1 F1 H1 J1 e1 q1⟩
  | _ => exact q1.elim
def cutD (xs : List D) (lo hi : Option Int) : List D := (xs.drop (HT.sIx xs.length 0 lo)).take (HT.sIx xs.length xs.length hi - HT.sIx xs.length 0 lo)
theorem cut_rep {F : Hp} {vs : List V} {ds : List D} (r : RepL K F vs ds) (lo hi : Option Int) : RepL K F (cutV vs lo hi) (cutD ds lo hi) := by
  unfold cutV cutD
  rw [r.length]
  exact RepL.take _ (RepL.drop _ r)
/-- a tuple's slice; a list's: a new one of one's own -/
def dSlT (de : DEv) (dl dh : DPv) : DEv := fun ρ Φ Ξ => de ρ (fun x ρ1 => dl ρ1 (fun lo ρ2 => dh ρ2 (fun hi ρ3 => match x with
  | .tup xs => Φ (.tup (cutD xs lo hi)) ρ3
  | _ => False) Ξ) Ξ) Ξ
def dSlL (de : DEv) (dl dh : DPv) : DOv := fun ρ Φ Ξ => de ρ (fun x ρ1 => dl ρ1 (fun lo ρ2 => dh ρ2 (fun hi ρ3 => match x with
  | .lst xs => Φ (cutD xs lo hi) ρ3
  | .fl xs => Φ (cutD xs lo hi) ρ3
  | _ => False) Ξ) Ξ) Ξ
theorem sIx_le (n d : Nat) (o : Option Int) (h : d ≤ n) : HT.sIx n d o ≤ n := by
  unfold HT.sIx
  cases o <;> simp only <;> (try split) <;> omega
theorem cut_whole {xs : List D} {lo hi : Option Int} (h : HT.sIx xs.length 0 lo = 0 ∧ HT.sIx xs.length xs.length hi = xs.length) : cutD xs lo hi = xs := by
  unfold cutD
  rw [h.1, h.2]
  simp
theorem de_slT {e : Expr} {lo hi : Option Expr} {te : TE} {tl th : TO} {de : DEv} {dl dh : DPv} {pos p2 : Pos} (he : DE X W e te de) (hl : DP X W lo tl dl) (hh : DP X W hi th dh) : DE X W (.Subscript e (.Slice lo hi none p2) pos) (tSl (rSlA X.K) te tl th) (dSlT de dl dh) := by
  refine ⟨pe_slice sl_tupA he.pe hl.po hh.po, fun C F H σ ρ Φ Ξ Q hK J q k w => ?_⟩
  refine he.sim C F H σ ρ _ Ξ _ hK J q (fun v d ρ1 F1 H1 J1 e1 r1 q1 => ?_) w
  refine hl.sim C F1 H1 σ ρ1 _ Ξ _ hK J1 q1 (fun o ρ2 F2 H2 J2 e2 q2 => ?_) (w.ext e1)
  refine hh.sim C F2 H2 σ ρ2 _ Ξ _ hK J2 q2 (fun o' ρ3 F3 H3 J3 e3 q3 => ?_) (w.ext (e1.trans e2))
  have r3 := r1.mono (e2.trans e3)
  have ee := e1.trans (e2.trans e3)
  cases r3 with
  | @tup p vs ds hx rl =>
    refine ⟨p, vs, rfl, hx.sqt J3.fh, fun z => ?_, fun z r nr => ?_⟩
    · rw [rl.length] at z
      exact k _ _ ρ3 F3 H3 J3 ee (.tup hx rl) (by have q4 : Φ (.tup (cutD ds o o')) ρ3 := q3; rwa [cut_whole z] at q4)
    · have g := Grow.new (o := .tup (cutV vs o o')) J3.fh nr
      exact k _ _ ρ3 _ _ (J3.grow g) (ee.trans g.ff) (.tup (.inl upd_same) ((cut_rep rl o o').mono g.ff)) q3
  | _ => exact q3.elim
theorem do_slL {e : Expr} {lo hi : Option Expr} {te : TE} {tl th : TO} {de : DEv} {dl dh : DPv} {pos p2 : Pos} (he : DE X W e te de) (hl : DP X W lo tl dl) (hh : DP X W hi th dh) : DO X W (.Subscript e (.Slice lo hi none p2) pos) (tSl (rSlL X.K) te tl th) (dSlL de dl dh) := by
  refine ⟨pe_slice sl_list he.pe hl.po hh.po, fun C F H σ ρ Φ Ξ Q hK J q k w => ?_⟩
  refine he.sim C F H σ ρ _ Ξ _ hK J q (fun v d ρ1 F1 H1 J1 e1 r1 q1 => ?_) w
  refine hl.sim C F1 H1 σ ρ1 _ Ξ _ hK J1 q1 (fun o ρ2 F2 H2 J2 e2 q2 => ?_) (w.ext e1)
  refine hh.sim C F2 H2 σ ρ2 _ Ξ _ hK J2 q2 (fun o' ρ3 F3 H3 J3 e3 q3 => ?_) (w.ext (e1.trans e2))
  have r3 := r1.mono (e2.trans e3)
  have ee := e1.trans (e2.trans e3)
  cases r3 with
  | @lst p vs ds hx rl =>
    refine ⟨p, vs, rfl, SqL.of (J3.fh _ _ hx), fun r nr => ?_⟩
    have g := Grow.fresh (o := .lst (cutV vs o o')) J3.fh nr
    exact k r _ _ ρ3 _ _ (J3.grow g) ee (J3.tmp nr) upd_same (cut_rep rl o o') q3
  | @fl p vs ds hx rl =>
    refine ⟨p, vs, rfl, ext_l J3.fh hx, fun r nr => ?_⟩
    have g := Grow.fresh (o := .lst (cutV vs o o')) J3.fh nr
    exact k r _ _ ρ3 _ _ (J3.grow g) ee (J3.tmp nr) upd_same (cut_rep rl o o') q3
  | _ => exact q3.elim
end
end DL
namespace DL
open PySem PySem.Spec PyProof.Rows L2

/-! ### a part that runs while things of one's own stand beside it -/
def subC (C : Cc) (F H : Hp) (σ : L2.St) (ρ : List SV) : Cc where
  K := C.K
  F0 := F
  H0 := H
  io := fun i a => ∃ sv : SV, ρ[i]? = some sv ∧ sv.own = true ∧ σ.getD i none = some (V.ref a)
  iou := fun i a b ⟨_, _, _, e⟩ ⟨_, _, _, e'⟩ => by rw [e] at e'; cases e'; rfl
def ioAll (ρ : List SV) : List SV := ρ.map (SV.setIo true)
section
variable {C : Cc} {F H F' H' : Hp} {σ : L2.St} {ρ : List SV}
theorem ioAll_get {i : Nat} {sv : SV} (e : (ioAll ρ)[i]? = some sv) : ∃ s, ρ[i]? = some s ∧ sv = s.setIo true := by
  unfold ioAll at e
  rw [List.getElem?_map] at e
  cases q : ρ[i]? with
  | none => rw [q] at e; cases e
  | some s => rw [q] at e; exact ⟨s, rfl, (Option.some.inj e).symm⟩
theorem I.sub (J : I C F H σ ρ) : I (subC C F H σ ρ) F H σ (ioAll ρ) := by
  refine ⟨.refl F, J.fh, fun a o e => .inl ⟨o, e⟩, fun a o e _ => e, by unfold ioAll; rw [List.length_map]; exact J.len, fun i sv e => ?_, fun i j a sv sv' e1 e2 o1 o2 => ?_, fun i a h => ?_⟩
  · obtain ⟨s, es, rfl⟩ := ioAll_get e
    by_cases ho : s.own = true
    · obtain ⟨p, e1, ⟨e2, _⟩, e4⟩ := J.slo es ho
      refine (slot_own (by rw [SV.own_setIo]; exact ho)).mpr ⟨p, e1, ⟨e2, ?_⟩, SV.at_setIo.mpr e4⟩
      rw [SV.io_setIo ho, if_pos rfl]
      exact ⟨s, es, ho, e1⟩
    · have q := J.sl i s es
      cases s with
      | un => trivial
      | d x => exact q
      | ex _ _ _ _ _ => exact q
      | _ => exact absurd rfl ho
  · obtain ⟨s1, f1, rfl⟩ := ioAll_get e1
    obtain ⟨s2, f2, rfl⟩ := ioAll_get e2
    rw [SV.own_setIo] at o1 o2
    exact J.ap i j a s1 s2 f1 f2 o1 o2
  · obtain ⟨s, es, ho, _⟩ := h
    exact ⟨s.setIo true, by unfold ioAll; rw [List.getElem?_map, es]; rfl, SV.io_setIo ho⟩
theorem I.unsub (J : I C F H σ ρ) (J2 : I (subC C F H σ ρ) F' H' σ (ioAll ρ)) : I C F' H' σ ρ ∧ Ext F F' := by
  have ext : Ext F F' := J2.f0
  refine ⟨⟨J.f0.trans ext, J2.fh, fun a o e => ?_, fun a o e n => ?_, J.len, fun i sv e => ?_, J.ap, J.ios⟩, ext⟩
  · rcases J2.fr a o e with ⟨o', z⟩ | z
    · exact J.fr a o' z
    · exact .inr (J.new z)
  · refine J2.kp a o (J.kp a o e n) fun i ⟨s, es, ho, ea⟩ => ?_
    obtain ⟨p, e1, ⟨_, e3⟩, _⟩ := J.slo es ho
    rw [e1] at ea; cases ea
    by_cases z : s.io = true
    · rw [if_pos z] at e3; exact n i e3
    · rw [if_neg z] at e3; rw [e3] at e; cases e
  · have e' : (ioAll ρ)[i]? = some (sv.setIo true) := by unfold ioAll; rw [List.getElem?_map, e]; rfl
    have q := J2.sl i _ e'
    by_cases ho : sv.own = true
    · obtain ⟨p, e1, ⟨_, e3⟩, _⟩ := J.slo e ho
      obtain ⟨p', f1, ⟨f2, _⟩, f4⟩ := (slot_own (by rw [SV.own_setIo]; exact ho)).mp q
      rw [e1] at f1; cases f1
      exact (slot_own ho).mpr ⟨p, e1, ⟨f2, e3⟩, SV.at_setIo.mp f4⟩
    · cases sv with
      | un => trivial
      | d x => exact q
      | ex _ _ _ _ _ => exact q
      | _ => exact absurd rfl ho
end

/-! ### slots wiped -/
theorem wipe_get (σ : L2.St) (i : Nat) : ∀ vs : List Nat, (wipe σ vs)[i]? = if i ∈ vs ∧ i < σ.length then some none else σ[i]?
  | [] => by
    have : wipe σ [] = σ := rfl
    rw [this, if_neg]; simp
  | v :: vs => by
    have : wipe σ (v :: vs) = (wipe σ vs).set v none := rfl
    rw [this, List.getElem?_set]
    have hl := wipe_length σ vs
    by_cases e : v = i
    · subst e
      rw [if_pos rfl]
      by_cases h : v < σ.length
      · rw [if_pos (by omega), if_pos ⟨List.mem_cons_self, h⟩]
      · rw [if_neg (by omega), if_neg (by intro z; exact h z.2), List.getElem?_eq_none (by omega)]
    · rw [if_neg e, wipe_get σ i vs]
      have : (i ∈ v :: vs) ↔ i ∈ vs := by
        rw [List.mem_cons]
        exact ⟨fun h => h.elim (fun z => absurd z.symm e) id, .inr⟩
      simp only [this]
def wipeS (ρ : List SV) (vs : List Nat) : List SV := ρ.mapIdx fun i s => if i ∈ vs then .un else s
theorem wipeS_get {ρ : List SV} {vs : List Nat} {i : Nat} {sv : SV} (e : (wipeS ρ vs)[i]? = some sv) : ∃ s, ρ[i]? = some s ∧ ((i ∈ vs ∧ sv = .un) ∨ (i ∉ vs ∧ sv = s)) := by
  unfold wipeS at e
  rw [List.getElem?_mapIdx] at e
  cases q : ρ[i]? with
  | none => rw [q] at e; cases e
  | some s =>
    rw [q, Option.map_some] at e
    refine ⟨s, rfl, ?_⟩
    by_cases h : i ∈ vs
    · rw [if_pos h] at e; exact .inl ⟨h, (Option.some.inj e).symm⟩
    · rw [if_neg h] at e; exact .inr ⟨h, (Option.some.inj e).symm⟩
theorem wipeS_len (ρ : List SV) (vs : List Nat) : (wipeS ρ vs).length = ρ.length := by unfold wipeS; rw [List.length_mapIdx]
/-- no own object stands at vs -/
def noOwn (ρ : List SV) (vs : List Nat) : Bool := vs.all fun i => !(ρ.getD i .un).own
theorem noOwn_at {ρ : List SV} {vs : List Nat} (h : noOwn ρ vs = true) {i : Nat} {s : SV} (hi : i ∈ vs) (e : ρ[i]? = some s) : s.own = false := by
  have h1 := List.all_eq_true.mp h i hi
  rw [getD_of e] at h1
  simpa using h1
section
variable {C : Cc} {F H F' H' : Hp} {σ : L2.St} {ρ : List SV} {vs : List Nat}
theorem wipe_getD (σ : L2.St) (vs : List Nat) {i : Nat} (h : i ∉ vs) : (wipe σ vs).getD i none = σ.getD i none := by
  rw [List.getD_eq_getElem?_getD, wipe_get, if_neg (fun z => h z.1), ← List.getD_eq_getElem?_getD]
theorem I.wipe (J : I C F H σ ρ) (h : noOwn ρ vs = true) : I C F H (L2.wipe σ vs) (wipeS ρ vs) := by
  refine ⟨J.f0, J.fh, J.fr, J.kp, by rw [wipe_length, wipeS_len]; exact J.len, fun i sv e => ?_, fun i j a sv sv' e1 e2 o1 o2 q1 q2 => ?_, fun i a ha => ?_⟩
  · obtain ⟨s, es, ⟨_, rfl⟩ | ⟨hn, rfl⟩⟩ := wipeS_get e
    · trivial
    · rw [wipe_getD σ vs hn]; exact J.sl i sv es
  · obtain ⟨s1, f1, ⟨_, rfl⟩ | ⟨n1, rfl⟩⟩ := wipeS_get e1
    · cases o1
    · obtain ⟨s2, f2, ⟨_, rfl⟩ | ⟨n2, rfl⟩⟩ := wipeS_get e2
      · cases o2
      · rw [wipe_getD σ vs n1] at q1
        rw [wipe_getD σ vs n2] at q2
        exact J.ap i j a sv sv' f1 f2 o1 o2 q1 q2
  · obtain ⟨sv, e, q⟩ := J.ios i a ha
    have hn : i ∉ vs := fun z => by have := noOwn_at h z e; rw [SV.own_of_io q] at this; cases this
    refine ⟨sv, ?_, q⟩
    unfold wipeS
    rw [List.getElem?_mapIdx, e, Option.map_some, if_neg hn]
/-- back: what the wiped slots held is as it was -/
theorem I.unwipe (J : I C F H σ ρ) (h : noOwn ρ vs = true) (J2 : I C F' H' (L2.wipe σ vs) (wipeS ρ vs)) (e : Ext F F') : I C F' H' σ ρ := by
  refine ⟨J2.f0, J2.fh, J2.fr, J2.kp, J.len, fun i sv es => ?_, J.ap, J.ios⟩
  by_cases hi : i ∈ vs
  · have q := J.sl i sv es
    have ho := noOwn_at h hi es
    cases sv with
    | un => trivial
    | d x => obtain ⟨v, e1, r⟩ := q; exact ⟨v, e1, r.mono e⟩
    | ex _ _ _ _ _ => exact ⟨q.1, q.2.mono e⟩
    | _ => cases ho
  · have e' : (wipeS ρ vs)[i]? = some sv := by unfold wipeS; rw [List.getElem?_mapIdx, es, Option.map_some, if_neg hi]
    have q := J2.sl i sv e'
    rwa [wipe_getD σ vs hi] at q
theorem stay_wipe {sl : List Nat} {σ2 : L2.St} (h : StayBut sl (wipe σ vs) σ2) (hs : ∀ i ∈ sl, i ∈ vs) : wipe σ2 vs = wipe σ vs := by
  apply List.ext_getElem?
  intro i
  have hl : σ2.length = σ.length := by rw [h.1, wipe_length]
  rw [wipe_get, wipe_get]
  by_cases hi : i ∈ vs ∧ i < σ.length
  · rw [if_pos hi, if_pos ⟨hi.1, by omega⟩]
  · rw [if_neg hi, if_neg (by rw [hl]; exact hi)]
    by_cases hv : i ∈ vs
    · have hge : σ.length ≤ i := Nat.le_of_not_lt fun z => hi ⟨hv, z⟩
      rw [List.getElem?_eq_none (by rw [hl]; exact hge), List.getElem?_eq_none hge]
    · rw [h.2 i fun z => hv (hs i z), wipe_get, if_neg hi]

/-- the new list of a comprehension, while it runs -/
structure LS (C : Cc) (F1 : Hp) (σ : L2.St) (ρ : List SV) (Dl : Addr) (acc : List D) (F H : Hp) : Prop where
  J : I C F H σ ρ
  e : Ext F1 F
  T : Tmp C F H σ ρ Dl
  a : ∃ vs, H Dl = some (.lst vs) ∧ RepL C.K F vs acc
theorem LS.back {F1 : Hp} {Dl : Addr} {acc : List D} (L : LS C F1 σ ρ Dl acc F H) (J2 : I (subC C F H σ ρ) F' H' σ (ioAll ρ)) : LS C F1 σ ρ Dl acc F' H' := by
  obtain ⟨J3, e3⟩ := L.J.unsub J2
  obtain ⟨vs, h1, r⟩ := L.a
  refine ⟨J3, L.e.trans e3, ⟨?_, L.T.n0, L.T.ns⟩, vs, ?_, r.mono e3⟩
  · cases q : F' Dl with
    | none => rfl
    | some o =>
      rcases J2.fr Dl o q with ⟨o', z⟩ | z
      · have z' : F Dl = some o' := z
        rw [L.T.nf] at z'; cases z'
      · have z' : H Dl = none := z
        rw [h1] at z'; cases z'
  · exact J2.kp Dl _ h1 fun i ⟨s, es, ho, ea⟩ => L.T.ns i s es ho ea
theorem LS.add {F1 : Hp} {Dl : Addr} {acc : List D} {y : V} {d : D} (L : LS C F1 σ ρ Dl acc F H) (r : Rep C.K F y d) : ∃ vs, H Dl = some (.lst vs) ∧ vs.length = acc.length ∧ LS C F1 σ ρ Dl (acc ++ [d]) F (upd H Dl (.lst (vs ++ [y]))) := by
  obtain ⟨vs, h1, rl⟩ := L.a
  refine ⟨vs, h1, rl.length, ?_, L.e, ⟨L.T.nf, L.T.n0, L.T.ns⟩, vs ++ [y], upd_same, rl.append (.one r)⟩
  have ne : ∀ a o, F a = some o → a ≠ Dl := fun a o e z => by subst z; rw [L.T.nf] at e; cases e
  refine ⟨L.J.f0, fun a o e => by rw [upd_ne (ne a o e)]; exact L.J.fh a o e, L.J.fr, fun a o e n => ?_, L.J.len, fun i sv e => ?_, L.J.ap, L.J.ios⟩
  · have : a ≠ Dl := fun z => by subst z; rw [L.T.n0] at e; cases e
    rw [upd_ne this]; exact L.J.kp a o e n
  · have q := L.J.sl i sv e
    by_cases ho : sv.own = true
    · obtain ⟨p, e1, e2, e3⟩ := (slot_own ho).mp q
      have np : p ≠ Dl := fun z => L.T.ns i sv e ho (by rw [e1, z])
      exact (slot_own ho).mpr ⟨p, e1, e2, SV.at_mono (.refl F) (fun u w => by rw [upd_ne np]; exact w) e3⟩
    · cases sv with
      | un => trivial
      | d x => exact q
      | ex _ _ _ _ _ => exact q
      | _ => exact absurd rfl ho
end

/-! ### list comprehensions -/
def X0 : XQ := fun _ _ _ => False
/-- behind a turn: the slots as ahead of it -/
def Same (ρ4 ρ : List SV) (vs : List Nat) : Prop := noOwn ρ4 vs = true ∧ Weaks (wipeS ρ4 vs) ρ
structure DTs (X : Cx) (ifs : List Expr) (tt : TT) (dt : DTv) : Prop where
  pts : PTs X ifs tt
  sim : SimT X.K W0 tt dt
def dYes : DTv := fun ρ Φ _ => Φ true ρ
theorem dts_nil {X : Cx} : DTs X [] tYes dYes := ⟨pts_nil, fun C F H σ ρ Φ Ξ Q hK J h k _ => k true ρ F H J (.refl F) h⟩
theorem dts_one {X : Cx} {c : Expr} {t : TT} {d : DTv} (h : DT X W0 c t d) : DTs X [c] t d := ⟨pts_one h.pt, h.sim⟩
def dLc (di : DIv) (dg : DGv) (dt : DTv) (de : DEv) (vs : List Nat) : DOv := fun ρ Φ Ξ => di ρ (fun items ρ1 => noOwn ρ1 vs = true ∧ items.length ≤ 1000000 ∧ ∃ Inv : Nat → List D → Prop, Inv 0 [] ∧
  (∀ (i : Nat) (x : D) (acc : List D), items[i]? = some x → Inv i acc → dg x (ioAll (wipeS ρ1 vs)) fun ρ2 => dt ρ2 (fun b ρ3 =>
    if b = true then de ρ3 (fun y ρ4 => Same ρ4 (ioAll (wipeS ρ1 vs)) vs ∧ Inv (i + 1) (acc ++ [y])) X0 else Same ρ3 (ioAll (wipeS ρ1 vs)) vs ∧ Inv (i + 1) acc) X0) ∧
  (∀ acc, Inv items.length acc → Φ acc ρ1)) Ξ
section
variable {K : PySem.W.Frag} {W : WX}
theorem wok0 {C : Cc} {F : Hp} {σ : L2.St} : WOk W0 C F σ X0 := fun _ _ _ _ _ _ _ _ _ _ h => h.elim
theorem sim_lc {wi : TI} {di : DIv} {g : TG} {dg : DGv} {tt : TT} {dt : DTv} {te : TE} {de : DEv} {vs sl : List Nat} (hi : SimI K W wi di) (hg : SimG K sl g dg) (ht : SimT K W0 tt dt) (he : SimE K W0 te de) (hs : ∀ i ∈ sl, i ∈ vs) : SimO K W (tLc wi g tt te vs) (dLc di dg dt de vs) := by
  intro C F H σ ρ Φ Ξ Q hK J q k w
  refine hi C F H σ ρ _ Ξ _ hK J q (fun It items ρ1 F1 H1 J1 e1 wk q1 => ?_) w
  obtain ⟨hno, hlen, Inv, h0, hturn, hdone⟩ := q1
  intro Dl nD
  obtain ⟨G, Y, wk, hG, hY⟩ := wk.w
  have Jw := J1.wipe hno
  have L0 : LS C F1 (wipe σ vs) (wipeS ρ1 vs) Dl [] F1 (upd H1 Dl (.lst [])) :=
    ⟨Jw.grow (.fresh Jw.fh nD), .refl F1, Jw.tmp nD, [], upd_same, .nil⟩
  refine lc_it wk (fun i H => ∃ F2 acc, LS C F1 (wipe σ vs) (wipeS ρ1 vs) Dl acc F2 H ∧ acc.length ≤ i ∧ Inv i acc) ⟨F1, [], L0, Nat.le_refl 0, h0⟩ (fun i H' _ ⟨F2, acc, L, _, _⟩ => hG H' (L.e.trans L.J.fh)) (fun i x H2 Hn hi' ⟨F2, acc, L, la, v⟩ y => ?_) (fun H2 ⟨F2, acc, L, la, v⟩ => ?_)
  · have hK' : (subC C F2 H2 (wipe σ vs) (wipeS ρ1 vs)).K = K := hK
    obtain ⟨F3, d, ed, gr, rx⟩ := hY i H2 x Hn F2 L.e L.J.fh y
    have Js := L.J.sub.grow gr
    refine hg (subC C F2 H2 (wipe σ vs) (wipeS ρ1 vs)) F3 Hn (wipe σ vs) _ x d _ _ hK' Js rx (hturn i d acc ed v) fun σ4 ρ4 F4 H4 J4 e4 st q4 => ?_
    have hw : wipe σ4 vs = wipe σ vs := stay_wipe st hs
    refine ⟨hw, ?_⟩
    have fin : ∀ {F5 H5 ρ5}, I (subC C F2 H2 (wipe σ vs) (wipeS ρ1 vs)) F5 H5 σ4 ρ5 → Same ρ5 (ioAll (wipeS ρ1 vs)) vs → LS C F1 (wipe σ vs) (wipeS ρ1 vs) Dl acc F5 H5 := fun {F5 H5 ρ5} J5 s5 => by
      have J6 := (J5.wipe s5.1).weak s5.2
      rw [hw] at J6
      exact L.back J6
    refine ht _ F4 H4 σ4 ρ4 _ X0 _ hK' J4 q4 (fun b ρ5 F5 H5 J5 e5 q5 => ?_) wok0
    cases b with
    | true =>
      rw [if_pos rfl] at q5 ⊢
      refine he _ F5 H5 σ4 ρ5 _ X0 _ hK' J5 q5 (fun z dz ρ6 F6 H6 J6 e6 r6 q6 => ?_) wok0
      have L6 := fin J6 q6.1
      obtain ⟨ws, h1, hl, L7⟩ := L6.add (show Rep C.K F6 z dz by rw [hK]; exact r6)
      exact ⟨ws, h1, size_lt (by omega), F6, acc ++ [dz], L7, by simp; omega, q6.2⟩
    | false =>
      rw [if_neg Bool.false_ne_true] at q5 ⊢
      exact ⟨F5, acc, fin J5 q5.1, by omega, q5.2⟩
  · obtain ⟨ws, h1, rl⟩ := L.a
    have J3 := J1.unwipe hno L.J L.e
    refine k Dl ws acc ρ1 F2 H2 J3 (e1.trans L.e) ⟨L.T.nf, L.T.n0, fun i sv e ho z => ?_⟩ h1 (by rw [← hK]; exact rl) (hdone acc v)
    by_cases hi : i ∈ vs
    · have := noOwn_at hno hi e
      rw [ho] at this; cases this
    · exact L.T.ns i sv (by unfold wipeS; rw [List.getElem?_mapIdx, e, Option.map_some, if_neg hi]) ho (by rw [wipe_getD σ vs hi]; exact z)
end
section
variable {X : Cx} {W : WX}
theorem do_lc {elt tg iter : Expr} {ifs : List Expr} {scope : Scope} {own : List (Str × Nat)} {vs : List Nat} {pos : Pos} {wi : TI} {di : DIv} {g : TG} {dg : DGv} {tt : TT} {dt : DTv} {te : TE} {de : DEv} {sl : List Nat} (hc : X.calm = true) (hN : X.N.Nodup) (hi : DI X W tg iter wi di) (ok : BlkOk X.N X.env.scope scope own)
    (hg : ∀ (s : Shared) (H : Hp) (C : Addr) (cl : List (Str × Addr)) (fp : List Addr), DG (X.blk s H scope (compEnvC scope cl C X.env) fp) tg g sl dg) (ht : ∀ (s : Shared) (H : Hp) (C : Addr) (cl : List (Str × Addr)) (fp : List Addr), DTs (X.blk s H scope (compEnvC scope cl C X.env) fp) ifs tt dt)
    (he : ∀ (s : Shared) (H : Hp) (C : Addr) (cl : List (Str × Addr)) (fp : List Addr), DE (X.blk s H scope (compEnvC scope cl C X.env) fp) W0 elt te de) (hsl : ∀ i ∈ sl, i ∈ own.map (·.2) := by decide) (hs : ∀ x, foldedSetIterable iter X.env x = pure x := by intro _; rfl) (hvs : own.map (·.2) = vs := by rfl) :
    DO X W (.ListComp elt [⟨tg, iter, ifs, 0⟩] scope pos) (tLc wi g tt te vs) (dLc di dg dt de vs) := by
  subst hvs
  refine ⟨pe_lc hc hN hi.pi ok (fun s H C cl fp => (hg s H C cl fp).pg) (fun s H C cl fp => (ht s H C cl fp).pts) (fun s H C cl fp => (he s H C cl fp).pe) hs, fun C F H σ ρ Φ Ξ Q hK J q k w => ?_⟩
  exact sim_lc hi.sim (hg X.s_0 H 0 [] []).sim (ht X.s_0 H 0 [] []).sim (he X.s_0 H 0 [] []).sim hsl C F H σ ρ Φ Ξ Q hK J q k w
end
end DL
namespace DL
open PySem PySem.Spec PyProof.Rows L2

/-! ### [e for x in xs for y in ys] -/
/-- what is walked within a comprehension -/
def dLc2 (di : DIv) (dg : DGv) (dt : DTv) (di1 : DIv) (dg1 : DGv) (dt1 : DTv) (de : DEv) (vs vs1 : List Nat) : DOv := fun ρ Φ Ξ => di ρ (fun items ρ1 => noOwn ρ1 vs = true ∧ items.length ≤ 1000 ∧ ∃ Inv : Nat → List D → Prop, Inv 0 [] ∧
  (∀ (i : Nat) (x : D) (acc : List D), items[i]? = some x → Inv i acc → dg x (ioAll (wipeS ρ1 vs)) fun ρ2 => dt ρ2 (fun b ρ3 =>
    if b = true then di1 ρ3 (fun items1 ρ4 => noOwn ρ4 vs1 = true ∧ Same ρ4 (ioAll (wipeS ρ1 vs)) vs ∧ items1.length ≤ 1000 ∧ ∃ Inv1 : Nat → List D → Prop, Inv1 0 acc ∧
      (∀ (j : Nat) (z : D) (acc1 : List D), items1[j]? = some z → Inv1 j acc1 → dg1 z (ioAll (wipeS ρ4 vs1)) fun ρ5 => dt1 ρ5 (fun c ρ6 =>
        if c = true then de ρ6 (fun y ρ7 => Same ρ7 (ioAll (wipeS ρ4 vs1)) vs1 ∧ Inv1 (j + 1) (acc1 ++ [y])) X0 else Same ρ6 (ioAll (wipeS ρ4 vs1)) vs1 ∧ Inv1 (j + 1) acc1) X0) ∧
      (∀ acc1, Inv1 items1.length acc1 → Inv (i + 1) acc1)) X0
    else Same ρ3 (ioAll (wipeS ρ1 vs)) vs ∧ Inv (i + 1) acc) X0) ∧
  (∀ acc, Inv items.length acc → Φ acc ρ1)) Ξ
theorem setIo2 (s : SV) (b c : Bool) : (s.setIo b).setIo c = s.setIo c := by cases s <;> rfl
theorem ioAll2 (ρ : List SV) : ioAll (ioAll ρ) = ioAll ρ := by
  unfold ioAll
  rw [List.map_map]
  congr 1
  funext s
  exact setIo2 s true true
def unIo (ρ ρ' : List SV) : List SV := ρ'.mapIdx fun i s => if s.io = true then s.setIo (ρ.getD i .un).io else s
theorem unIo_get {ρ ρ' : List SV} {i : Nat} {sv : SV} (e : (unIo ρ ρ')[i]? = some sv) : ∃ s, ρ'[i]? = some s ∧ ((s.io = true ∧ sv = s.setIo (ρ.getD i .un).io) ∨ (s.io = false ∧ sv = s)) := by
  unfold unIo at e
  rw [List.getElem?_mapIdx] at e
  cases q : ρ'[i]? with
  | none => rw [q] at e; cases e
  | some s =>
    rw [q, Option.map_some] at e
    refine ⟨s, rfl, ?_⟩
    by_cases h : s.io = true
    · rw [if_pos h] at e; exact .inl ⟨h, (Option.some.inj e).symm⟩
    · rw [if_neg h] at e; exact .inr ⟨by simpa using h, (Option.some.inj e).symm⟩
section
variable {C : Cc} {F H F' H' : Hp} {σ σ' : L2.St} {ρ ρ' : List SV} {vs : List Nat}
theorem I.unsub2 (J : I C F H σ ρ) (J2 : I (subC C F H σ ρ) F' H' σ' ρ') : I C F' H' σ' (unIo ρ ρ') ∧ Ext F F' := by
  have ext : Ext F F' := J2.f0
  have io : ∀ (i : Nat) (s : SV), ρ'[i]? = some s → s.io = true → ∃ (s0 : SV) (a : Addr), ρ[i]? = some s0 ∧ s0.own = true ∧ σ.getD i none = some (V.ref a) ∧ σ'.getD i none = some (V.ref a) ∧ (if s0.io = true then C.io i a else C.H0 a = none) := fun i s e h => by
    obtain ⟨a, e1, ⟨_, e3⟩, _⟩ := J2.slo e (SV.own_of_io h)
    rw [h, if_pos rfl] at e3
    obtain ⟨s0, es0, ho, ea⟩ := e3
    obtain ⟨a', f1, ⟨_, f3⟩, _⟩ := J.slo es0 ho
    rw [ea] at f1; cases f1
    exact ⟨s0, a, es0, ho, ea, e1, f3⟩
  refine ⟨⟨J.f0.trans ext, J2.fh, fun a o e => ?_, fun a o e n => ?_, ?_, fun i sv e => ?_, fun i j a sv sv' e1 e2 o1 o2 => ?_, fun i a h => ?_⟩, ext⟩
  · rcases J2.fr a o e with ⟨o', z⟩ | z
    · exact J.fr a o' z
    · exact .inr (J.new z)
  · refine J2.kp a o (J.kp a o e n) fun i ⟨s, es, ho, ea⟩ => ?_
    obtain ⟨p, e1, ⟨_, e3⟩, _⟩ := J.slo es ho
    rw [e1] at ea; cases ea
    by_cases z : s.io = true
    · rw [if_pos z] at e3; exact n i e3
    · rw [if_neg z] at e3; rw [e3] at e; cases e
  · unfold unIo; rw [List.length_mapIdx]; exact J2.len
  · obtain ⟨s, es, ⟨hs, rfl⟩ | ⟨hs, rfl⟩⟩ := unIo_get e
    · obtain ⟨s0, a, es0, ho, ea, ea', hio⟩ := io i s es hs
      obtain ⟨p, f1, ⟨f2, _⟩, f4⟩ := J2.slo es (SV.own_of_io hs)
      rw [ea'] at f1; cases f1
      rw [getD_of es0]
      refine (slot_own (by rw [SV.own_setIo]; exact SV.own_of_io hs)).mpr ⟨a, ea', ⟨f2, ?_⟩, SV.at_setIo.mpr f4⟩
      rw [SV.io_setIo (SV.own_of_io hs)]
      exact hio
    · have q := J2.sl i sv es
      by_cases ho : sv.own = true
      · obtain ⟨p, f1, ⟨f2, f3⟩, f4⟩ := (slot_own ho).mp q
        rw [hs, if_neg Bool.false_ne_true] at f3
        refine (slot_own ho).mpr ⟨p, f1, ⟨f2, ?_⟩, f4⟩
        rw [hs, if_neg Bool.false_ne_true]
        exact J.new f3
      · cases sv with
        | un => trivial
        | d x => exact q
        | ex _ _ _ _ _ => exact q
        | _ => exact absurd rfl ho
  · have f : ∀ (i : Nat) (sv : SV), (unIo ρ ρ')[i]? = some sv → sv.own = true → ∃ s : SV, ρ'[i]? = some s ∧ s.own = true := fun i sv e o => by
      obtain ⟨s, es, ⟨hs, rfl⟩ | ⟨hs, rfl⟩⟩ := unIo_get e
      · exact ⟨s, es, SV.own_of_io hs⟩
      · exact ⟨sv, es, o⟩
    obtain ⟨u1, f1, g1⟩ := f i sv e1 o1
    obtain ⟨u2, f2, g2⟩ := f j sv' e2 o2
    exact J2.ap i j a u1 u2 f1 f2 g1 g2
  · obtain ⟨s0, es0, hs0⟩ := J.ios i a h
    obtain ⟨p, f1, ⟨_, f3⟩, _⟩ := J.slo es0 (SV.own_of_io hs0)
    obtain ⟨s, es, hs⟩ := J2.ios i p ⟨s0, es0, SV.own_of_io hs0, f1⟩
    refine ⟨s.setIo s0.io, ?_, ?_⟩
    · unfold unIo
      rw [List.getElem?_mapIdx, es, Option.map_some, if_pos hs, getD_of es0]
    · rw [SV.io_setIo (SV.own_of_io hs)]; exact hs0
theorem Weak.setIo {s t : SV} (h : Weak s t) (ht : t.own = true) (b : Bool) : Weak (s.setIo b) (t.setIo b) := by
  cases h with
  | refl => exact .refl _
  | un e => cases ht
  | op p => exact .op p
  | opp p => exact .opp p
theorem setIo_self (s : SV) : s.setIo s.io = s := by cases s <;> rfl
theorem setIo_no {s : SV} (h : s.own = false) (b : Bool) : s.setIo b = s := by cases s <;> first | rfl | cases h
theorem weaks_of {a b : List SV} (hl : a.length = b.length) (h : ∀ (i : Nat) (s t : SV), a[i]? = some s → b[i]? = some t → Weak s t) : Weaks a b := by
  induction a generalizing b with
  | nil => cases b with
    | nil => exact .nil
    | cons _ _ => cases hl
  | cons x a ih => cases b with
    | nil => cases hl
    | cons y b => exact .cons (h 0 x y rfl rfl) (ih (by simpa using hl) fun i s t e1 e2 => h (i + 1) s t (by simpa using e1) (by simpa using e2))
theorem io_not_own {s : SV} (h : s.own = false) : s.io = false := by cases s <;> first | rfl | cases h
theorem weaks_unIo (h : Weaks (wipeS ρ' vs) (ioAll ρ)) : Weaks (wipeS (unIo ρ ρ') vs) ρ := by
  have hl := h.length
  unfold ioAll at hl
  rw [List.length_map, wipeS_len] at hl
  refine weaks_of (by rw [wipeS_len]; unfold unIo; rw [List.length_mapIdx]; exact hl) fun i s t e1 e2 => ?_
  obtain ⟨u, eu, hw⟩ := h.get (i := i) (t := t.setIo true) (by unfold ioAll; rw [List.getElem?_map, e2]; rfl)
  obtain ⟨v, ev, ⟨hi, rfl⟩ | ⟨hi, rfl⟩⟩ := wipeS_get e1
  · obtain ⟨v', ev', ⟨_, rfl⟩ | ⟨hn, _⟩⟩ := wipeS_get eu
    · cases t with
      | un => exact .refl _
      | _ => cases hw
    · exact absurd hi hn
  · obtain ⟨v', ev', ⟨hn, _⟩ | ⟨_, rfl⟩⟩ := wipeS_get eu
    · exact absurd hn hi
    · obtain ⟨z, ez, ⟨hz, rfl⟩ | ⟨hz, rfl⟩⟩ := unIo_get ev
      · rw [ev'] at ez; cases ez
        rw [getD_of e2]
        by_cases ho : t.own = true
        · have := hw.setIo (by rw [SV.own_setIo]; exact ho) t.io
          rwa [setIo2, setIo_self] at this
        · have ho' : t.own = false := by simpa using ho
          rw [setIo_no ho'] at hw
          have := hw.io_eq
          rw [hz, io_not_own ho'] at this
          cases this
      · rw [ev'] at ez; cases ez
        by_cases ho : t.own = true
        · have := hw.io_eq
          rw [SV.io_setIo ho, hz] at this
          cases this
        · have ho' : t.own = false := by simpa using ho
          rw [setIo_no ho'] at hw
          exact hw
theorem noOwn_unIo (h : noOwn ρ' vs = true) : noOwn (unIo ρ ρ') vs = true := by
  unfold noOwn
  rw [List.all_eq_true]
  intro i hi
  cases q : (unIo ρ ρ')[i]? with
  | none => rw [List.getD_eq_getElem?_getD, q]; rfl
  | some sv =>
    rw [getD_of q]
    obtain ⟨s, es, ⟨hs, rfl⟩ | ⟨hs, rfl⟩⟩ := unIo_get q
    · have := noOwn_at h hi es
      rw [SV.own_of_io hs] at this; cases this
    · rw [noOwn_at h hi es]; rfl
theorem ioAll_unIo : ioAll (wipeS (unIo ρ ρ') vs) = ioAll (wipeS ρ' vs) := by
  apply List.ext_getElem?
  intro i
  unfold ioAll wipeS unIo
  simp only [List.getElem?_map, List.getElem?_mapIdx]
  cases ρ'[i]? with
  | none => rfl
  | some s =>
    simp only [Option.map_some]
    congr 1
    split
    · rfl
    · split
      · rw [setIo2]
      · rfl
end
section
variable {K : PySem.W.Frag} {W : WX}
theorem sim_lc2 {wi wi1 : TI} {di di1 : DIv} {g g1 : TG} {dg dg1 : DGv} {tt tt1 : TT} {dt dt1 : DTv} {te : TE} {de : DEv} {vs vs1 sl sl1 : List Nat} (hi : SimI K W wi di) (hg : SimG K sl g dg) (ht : SimT K W0 tt dt) (hi1 : SimI K W0 wi1 di1) (hg1 : SimG K sl1 g1 dg1) (ht1 : SimT K W0 tt1 dt1) (he : SimE K W0 te de)
    (hs : ∀ i ∈ sl, i ∈ vs) (hs1 : ∀ i ∈ sl1, i ∈ vs1) : SimO K W (tLc2 wi g tt wi1 g1 tt1 te vs vs1) (dLc2 di dg dt di1 dg1 dt1 de vs vs1) := by
  intro C F H σ ρ Φ Ξ Q hK J q k w
  refine hi C F H σ ρ _ Ξ _ hK J q (fun It items ρ1 F1 H1 J1 e1 wk q1 => ?_) w
  obtain ⟨hno, hlen, Inv, h0, hturn, hdone⟩ := q1
  intro Dl nD
  obtain ⟨G, Y, wk, hG, hY⟩ := wk.w
  have Jw := J1.wipe hno
  have L0 : LS C F1 (wipe σ vs) (wipeS ρ1 vs) Dl [] F1 (upd H1 Dl (.lst [])) :=
    ⟨Jw.grow (.fresh Jw.fh nD), .refl F1, Jw.tmp nD, [], upd_same, .nil⟩
  -- the outer loop, by hand
  refine ⟨fun i m H => m = items.length - i ∧ i ≤ items.length ∧ ∃ F2 acc, LS C F1 (wipe σ vs) (wipeS ρ1 vs) Dl acc F2 H ∧ acc.length ≤ i * 1000 ∧ Inv i acc, ⟨items.length, by simp, Nat.zero_le _, F1, [], L0, by simp, h0⟩, ?_⟩
  rintro i m H2 ⟨rfl, hi', F2, acc, L, la, v⟩
  have q0 := hG H2 (L.e.trans L.J.fh)
  by_cases hlt : i < items.length
  · refine .inr ⟨wk.goes i H2 hlt q0, fun H => ∃ F2 acc, LS C F1 (wipe σ vs) (wipeS ρ1 vs) Dl acc F2 H ∧ acc.length ≤ (i + 1) * 1000 ∧ Inv (i + 1) acc, fun H' h' => ⟨items.length - (i + 1), by omega, rfl, hlt, h'⟩, fun x Hn y => ?_⟩
    have hK' : (subC C F2 H2 (wipe σ vs) (wipeS ρ1 vs)).K = K := hK
    obtain ⟨F3, d, ed, gr, rx⟩ := hY i H2 x Hn F2 L.e L.J.fh (wk.yields i H2 x Hn hlt q0 y)
    have Js := L.J.sub.grow gr
    refine hg (subC C F2 H2 (wipe σ vs) (wipeS ρ1 vs)) F3 Hn (wipe σ vs) _ x d _ _ hK' Js rx (hturn i d acc ed v) fun σ4 ρ4 F4 H4 J4 e4 st q4 => ?_
    have hw : wipe σ4 vs = wipe σ vs := stay_wipe st hs
    refine ⟨hw, ?_⟩
    have fin : ∀ {F5 H5 ρ5}, I (subC C F2 H2 (wipe σ vs) (wipeS ρ1 vs)) F5 H5 σ4 ρ5 → Same ρ5 (ioAll (wipeS ρ1 vs)) vs → LS C F1 (wipe σ vs) (wipeS ρ1 vs) Dl acc F5 H5 := fun {F5 H5 ρ5} J5 s5 => by
      have J6 := (J5.wipe s5.1).weak s5.2
      rw [hw] at J6
      exact L.back J6
    refine ht _ F4 H4 σ4 ρ4 _ X0 _ hK' J4 q4 (fun b ρ5 F5 H5 J5 e5 q5 => ?_) wok0
    cases b with
    | false =>
      rw [if_neg Bool.false_ne_true] at q5 ⊢
      exact ⟨F5, acc, fin J5 q5.1, by omega, q5.2⟩
    | true =>
      rw [if_pos rfl] at q5 ⊢
      refine hi1 _ F5 H5 σ4 ρ5 _ X0 _ hK' J5 q5 (fun It1 items1 ρ6 F6 H6 J6 e6 wk1 q6 => ?_) wok0
      obtain ⟨hno1, hsame, hlen1, Inv1, h01, hturn1, hdone1⟩ := q6
      obtain ⟨G1, Y1, wk1, hG1, hY1⟩ := wk1.w
      have L6 := fin J6 hsame
      obtain ⟨ws0, hD0, rl0⟩ := L6.a
      -- the state in the inner loop, told from outside
      obtain ⟨J7, e7⟩ := L.J.unsub2 J6
      have nu := noOwn_unIo (ρ := wipeS ρ1 vs) hno1
      have T7 : ∀ (n : Nat) (sv : SV), (unIo (wipeS ρ1 vs) ρ6)[n]? = some sv → sv.own = true → σ4.getD n none ≠ some (.ref Dl) := fun n sv e ho z => by
        obtain ⟨s, es, hcase⟩ := unIo_get e
        have hos : s.own = true := by
          rcases hcase with ⟨hs, _⟩ | ⟨_, rfl⟩
          · exact SV.own_of_io hs
          · exact ho
        obtain ⟨p, f1, ⟨_, f3⟩, _⟩ := J6.slo es hos
        rw [z] at f1; cases f1
        by_cases hio : s.io = true
        · rw [if_pos hio] at f3
          obtain ⟨s0, es0, ho0, ea⟩ := f3
          exact L.T.ns n s0 es0 ho0 ea
        · rw [if_neg hio] at f3
          obtain ⟨ws1, h1, _⟩ := L.a
          have f3' : H2 Dl = none := f3
          rw [h1] at f3'; cases f3'
      have Jw1 := J7.wipe nu
      have LL : LS C F1 (wipe σ4 vs1) (wipeS (unIo (wipeS ρ1 vs) ρ6) vs1) Dl acc F6 H6 :=
        ⟨Jw1, L6.e, ⟨L6.T.nf, L6.T.n0, fun n sv e ho z => by
          obtain ⟨s, es, ⟨_, rfl⟩ | ⟨hn, rfl⟩⟩ := wipeS_get e
          · cases ho
          · rw [wipe_getD σ4 vs1 hn] at z
            exact T7 n sv es ho z⟩, L6.a⟩
      refine ⟨fun j m H => m = items1.length - j ∧ j ≤ items1.length ∧ ∃ F7 acc1, Ext F6 F7 ∧ LS C F1 (wipe σ4 vs1) (wipeS (unIo (wipeS ρ1 vs) ρ6) vs1) Dl acc1 F7 H ∧ acc1.length ≤ i * 1000 + j ∧ Inv1 j acc1, ⟨items1.length, by simp, Nat.zero_le _, F6, acc, .refl _, LL, by omega, h01⟩, ?_⟩
      rintro j m H7 ⟨rfl, hj', F7, acc1, e67, L7, la7, v7⟩
      have q07 := hG1 H7 (e67.trans L7.J.fh)
      by_cases hjt : j < items1.length
      · refine .inr ⟨wk1.goes j H7 hjt q07, fun H => ∃ F8 acc1, Ext F6 F8 ∧ LS C F1 (wipe σ4 vs1) (wipeS (unIo (wipeS ρ1 vs) ρ6) vs1) Dl acc1 F8 H ∧ acc1.length ≤ i * 1000 + (j + 1) ∧ Inv1 (j + 1) acc1, fun H' h' => ⟨items1.length - (j + 1), by omega, rfl, hjt, h'⟩, fun x7 Hn7 y7 => ?_⟩
        have hK7 : (subC C F7 H7 (wipe σ4 vs1) (wipeS (unIo (wipeS ρ1 vs) ρ6) vs1)).K = K := hK
        obtain ⟨F8, d8, ed8, gr8, rx8⟩ := hY1 j H7 x7 Hn7 F7 e67 L7.J.fh (wk1.yields j H7 x7 Hn7 hjt q07 y7)
        have Js8 := L7.J.sub.grow gr8
        rw [ioAll_unIo] at Js8
        refine hg1 (subC C F7 H7 (wipe σ4 vs1) (wipeS (unIo (wipeS ρ1 vs) ρ6) vs1)) F8 Hn7 (wipe σ4 vs1) _ x7 d8 _ _ hK7 Js8 rx8 (hturn1 j d8 acc1 ed8 v7) fun σ9 ρ9 F9 H9 J9 e9 st9 q9 => ?_
        have hw9 : wipe σ9 vs1 = wipe σ4 vs1 := stay_wipe st9 hs1
        refine ⟨hw9, ?_⟩
        have fin9 : ∀ {F5 H5 ρ5}, I (subC C F7 H7 (wipe σ4 vs1) (wipeS (unIo (wipeS ρ1 vs) ρ6) vs1)) F5 H5 σ9 ρ5 → Same ρ5 (ioAll (wipeS ρ6 vs1)) vs1 → LS C F1 (wipe σ4 vs1) (wipeS (unIo (wipeS ρ1 vs) ρ6) vs1) Dl acc1 F5 H5 ∧ Ext F7 F5 := fun {F5 H5 ρ5} J5 s5 => by
          have J6' := (J5.wipe s5.1).weak s5.2
          rw [hw9, ← ioAll_unIo (ρ := wipeS ρ1 vs)] at J6'
          exact ⟨L7.back J6', J6'.f0⟩
        refine ht1 _ F9 H9 σ9 ρ9 _ X0 _ hK7 J9 q9 (fun b ρ10 F10 H10 J10 e10 q10 => ?_) wok0
        cases b with
        | true =>
          rw [if_pos rfl] at q10 ⊢
          refine he _ F10 H10 σ9 ρ10 _ X0 _ hK7 J10 q10 (fun z dz ρ11 F11 H11 J11 e11 r11 q11 => ?_) wok0
          obtain ⟨L11, e711⟩ := fin9 J11 q11.1
          obtain ⟨ws, h1, hl, L12⟩ := L11.add (show Rep C.K F11 z dz by rw [hK]; exact r11)
          have hil : i * 1000 ≤ 1000 * 1000 := by omega
          exact ⟨ws, h1, size_lt (by omega), F11, acc1 ++ [dz], e67.trans e711, L12, by simp; omega, q11.2⟩
        | false =>
          rw [if_neg Bool.false_ne_true] at q10 ⊢
          obtain ⟨L11, e711⟩ := fin9 J10 q10.1
          exact ⟨F10, acc1, e67.trans e711, L11, by omega, q10.2⟩
      · have ej : j = items1.length := by omega
        subst ej
        refine .inl ⟨wk1.stops H7 q07, F7, acc1, ?_, by omega, hdone1 acc1 v7⟩
        have J8 := J7.unwipe nu L7.J e67
        have J9 := (J8.wipe (noOwn_unIo hsame.1)).weak (weaks_unIo hsame.2)
        rw [hw] at J9
        exact ⟨J9, L7.e, ⟨L7.T.nf, L7.T.n0, L.T.ns⟩, L7.a⟩
  · have ei : i = items.length := by omega
    subst ei
    refine .inl ⟨wk.stops H2 q0, ?_⟩
    obtain ⟨ws, h1, rl⟩ := L.a
    have J3 := J1.unwipe hno L.J L.e
    refine k Dl ws acc ρ1 F2 H2 J3 (e1.trans L.e) ⟨L.T.nf, L.T.n0, fun i sv e ho z => ?_⟩ h1 (by rw [← hK]; exact rl) (hdone acc v)
    by_cases hi : i ∈ vs
    · have := noOwn_at hno hi e
      rw [ho] at this; cases this
    · exact L.T.ns i sv (by unfold wipeS; rw [List.getElem?_mapIdx, e, Option.map_some, if_neg hi]) ho (by rw [wipe_getD σ vs hi]; exact z)
end
section
variable {X : Cx} {W : WX}
theorem do_lc2 {elt tg iter tg1 iter1 : Expr} {ifs ifs1 : List Expr} {scope : Scope} {own : List (Str × Nat)} {vs : List Nat} {vs1 : List Nat} {pos : Pos} {wi wi1 : TI} {di di1 : DIv} {g g1 : TG} {dg dg1 : DGv} {tt tt1 : TT} {dt dt1 : DTv} {te : TE} {de : DEv} {sl sl1 : List Nat} (hc : X.calm = true) (hN : X.N.Nodup) (hi : DI X W tg iter wi di) (ok : BlkOk X.N X.env.scope scope own) (hv : ∀ i ∈ vs1, i ∈ own.map (·.2))
    (hg : ∀ (s : Shared) (H : Hp) (C : Addr) (cl : List (Str × Addr)) (fp : List Addr), DG (X.blk s H scope (compEnvC scope cl C X.env) fp) tg g sl dg) (ht : ∀ (s : Shared) (H : Hp) (C : Addr) (cl : List (Str × Addr)) (fp : List Addr), DTs (X.blk s H scope (compEnvC scope cl C X.env) fp) ifs tt dt)
    (hi1 : ∀ (s : Shared) (H : Hp) (C : Addr) (cl : List (Str × Addr)) (fp : List Addr), DI (X.blk s H scope (compEnvC scope cl C X.env) fp) W0 tg1 iter1 wi1 di1)
    (hg1 : ∀ (s : Shared) (H : Hp) (C : Addr) (cl : List (Str × Addr)) (fp : List Addr), DG (X.blk s H scope (compEnvC scope cl C X.env) fp) tg1 g1 sl1 dg1) (ht1 : ∀ (s : Shared) (H : Hp) (C : Addr) (cl : List (Str × Addr)) (fp : List Addr), DTs (X.blk s H scope (compEnvC scope cl C X.env) fp) ifs1 tt1 dt1)
    (he : ∀ (s : Shared) (H : Hp) (C : Addr) (cl : List (Str × Addr)) (fp : List Addr), DE (X.blk s H scope (compEnvC scope cl C X.env) fp) W0 elt te de) (hsl : ∀ i ∈ sl, i ∈ own.map (·.2) := by decide) (hsl1 : ∀ i ∈ sl1, i ∈ vs1 := by decide) (hs : ∀ x, foldedSetIterable iter X.env x = pure x := by intro _; rfl) (hs1 : ∀ env x, foldedSetIterable iter1 env x = pure x := by intro _ _; rfl) (hvs : own.map (·.2) = vs := by rfl) :
    DO X W (.ListComp elt [⟨tg, iter, ifs, 0⟩, ⟨tg1, iter1, ifs1, 0⟩] scope pos) (tLc2 wi g tt wi1 g1 tt1 te vs vs1) (dLc2 di dg dt di1 dg1 dt1 de vs vs1) := by
  subst hvs
  refine ⟨pe_lc2 hc hN hi.pi ok hv (fun s H C cl fp => (hg s H C cl fp).pg) (fun s H C cl fp => (ht s H C cl fp).pts) (fun s H C cl fp => (hi1 s H C cl fp).pi) (fun s H C cl fp => (hg1 s H C cl fp).pg) (fun s H C cl fp => (ht1 s H C cl fp).pts) (fun s H C cl fp => (he s H C cl fp).pe) hs hs1, fun C F H σ ρ Φ Ξ Q hK J q k w => ?_⟩
  exact sim_lc2 hi.sim (hg X.s_0 H 0 [] []).sim (ht X.s_0 H 0 [] []).sim (hi1 X.s_0 H 0 [] []).sim (hg1 X.s_0 H 0 [] []).sim (ht1 X.s_0 H 0 [] []).sim (he X.s_0 H 0 [] []).sim hsl hsl1 C F H σ ρ Φ Ξ Q hK J q k w
end
end DL
namespace DL
open PySem PySem.Spec PyProof.Rows L2

/-! ### calls of what is built in -/
def SimC (K : PySem.W.Frag) (r : List V → Hp → VK → Prop) (rd : List D → (D → Prop) → Prop) : Prop := ∀ (F H : Hp) (vs : List V) (ds : List D) (Φ : D → Prop) (Q : VK), Ext F H → RepL K F vs ds → rd ds Φ →
  (∀ v d F' H', Grow F H F' H' → Rep K F' v d → Φ d → Q v H') → r vs H Q
/-- a new list -/
def SimCO (K : PySem.W.Frag) (r : List V → Hp → VK → Prop) (rd : List D → (List D → Prop) → Prop) : Prop := ∀ (F H : Hp) (vs : List V) (ds : List D) (Φ : List D → Prop) (Q : VK), Ext F H → RepL K F vs ds → rd ds Φ →
  (∀ p ws xs, H p = none → RepL K F ws xs → Φ xs → Q (.ref p) (upd H p (.lst ws))) → r vs H Q
def dCB (rd : List D → (D → Prop) → Prop) (da : DAv) : DEv := fun ρ Φ Ξ => dArgs da (fun ds ρ1 => rd ds fun z => Φ z ρ1) ρ Ξ
def dCBO (rd : List D → (List D → Prop) → Prop) (da : DAv) : DOv := fun ρ Φ Ξ => dArgs da (fun ds ρ1 => rd ds fun z => Φ z ρ1) ρ Ξ
section
variable {X : Cx} {W : WX} {K : PySem.W.Frag}
theorem sim_cb {r : List V → Hp → VK → Prop} {rd : List D → (D → Prop) → Prop} {ta : TA} {da : DAv} (h : SimC K r rd) (ha : SimA K W ta da) : SimE K W (tCB r ta) (dCB rd da) := by
  intro C F H σ ρ Φ Ξ Q hK J q k w
  refine sim_args ha hK J q (fun vs ds ρ1 F1 H1 J1 e1 rl q1 => ?_) w
  exact h F1 H1 vs ds _ _ J1.fh rl q1 fun v d F2 H2 g r2 q2 => k v d ρ1 F2 H2 (J1.grow g) (e1.trans g.ff) r2 q2
theorem sim_cbO {r : List V → Hp → VK → Prop} {rd : List D → (List D → Prop) → Prop} {ta : TA} {da : DAv} (h : SimCO K r rd) (ha : SimA K W ta da) : SimO K W (tCB r ta) (dCBO rd da) := by
  intro C F H σ ρ Φ Ξ Q hK J q k w
  refine sim_args ha hK J q (fun vs ds ρ1 F1 H1 J1 e1 rl q1 => ?_) w
  exact h F1 H1 vs ds _ _ J1.fh rl q1 fun p ws xs np rw' q2 => k p ws xs ρ1 F1 _ (J1.grow (.fresh J1.fh np)) e1 (J1.tmp np) upd_same rw' q2
section
variable {id T : String} {x : Str} {r : List V → Hp → VK → Prop} {rd : List D → (D → Prop) → Prop} {ro : List D → (List D → Prop) → Prop} {e : Expr} {es : List Expr} {ta : TA} {da : DAv} {p pos : Pos}
theorem de_blt (hc : CallR X (.builtin id) r) (hs : SimC X.K r rd) (hm : X.mg x = none) (hv : bootBuiltins x = some (.builtin id)) (ha : DA X W (e :: es) ta da) (hg : Gl X x := by rfl) (hn : x ≠ "__name__" := by decide) (hdb : (x == ("__debug__" : Str)) = false := by decide)
    (he : starEach (e :: es) X.env = (false, eval e X.env) :: starEach es X.env := by rfl) (hpl : (backTo pos (starEach es X.env)).any (·.1) = false := by rfl) : DE X W (.Call (.Name x p) (e :: es) [] pos) (tCB r ta) (dCB rd da) :=
  ⟨pe_callB hc hg hm hv ha.pa hn hdb he hpl, sim_cb hs ha.sim⟩
theorem de_tyc (hc : CallR X (.type T) r) (hs : SimC X.K r rd) (hm : X.mg x = none) (hv : bootBuiltins x = some (.type T)) (ha : DA X W (e :: es) ta da) (hg : Gl X x := by rfl) (hn : x ≠ "__name__" := by decide) (hdb : (x == ("__debug__" : Str)) = false := by decide)
    (he : starEach (e :: es) X.env = (false, eval e X.env) :: starEach es X.env := by rfl) (hpl : (backTo pos (starEach es X.env)).any (·.1) = false := by rfl) : DE X W (.Call (.Name x p) (e :: es) [] pos) (tCB r ta) (dCB rd da) :=
  ⟨pe_callTy hc hg hm hv ha.pa hn hdb he hpl, sim_cb hs ha.sim⟩
theorem do_tyc (hc : CallR X (.type T) r) (hs : SimCO X.K r ro) (hm : X.mg x = none) (hv : bootBuiltins x = some (.type T)) (ha : DA X W (e :: es) ta da) (hg : Gl X x := by rfl) (hn : x ≠ "__name__" := by decide) (hdb : (x == ("__debug__" : Str)) = false := by decide)
    (he : starEach (e :: es) X.env = (false, eval e X.env) :: starEach es X.env := by rfl) (hpl : (backTo pos (starEach es X.env)).any (·.1) = false := by rfl) : DO X W (.Call (.Name x p) (e :: es) [] pos) (tCB r ta) (dCBO ro da) :=
  ⟨pe_callTy hc hg hm hv ha.pa hn hdb he hpl, sim_cbO hs ha.sim⟩
end
/-! len -/
def dLen : List D → (D → Prop) → Prop := fun ds Φ => match ds with
  | [.tup xs] => Φ (.int xs.length)
  | [.lst xs] => Φ (.int xs.length)
  | [.fl xs] => Φ (.int xs.length)
  | [.str z] => z.length ≤ 1000000 ∧ Φ (.int z.length)
  | _ => False
theorem sim_len : SimC K (fun xs H Q => ∃ x n, xs = [x] ∧ LenV K x H n ∧ Q (.int n) H) dLen := by
  intro F H vs ds Φ Q e rl h k
  unfold dLen at h
  split at h
  · rename_i xs
    cases rl with
    | cons r0 r1 => cases r1; cases r0 with
      | @tup a ws _ hx rl => exact ⟨_, ws.length, rfl, .inr ⟨ws, hx.sqt e, rfl⟩, k _ _ F H (.refl e) (.int _) (by rw [rl.length]; exact h)⟩
  · rename_i xs
    cases rl with
    | cons r0 r1 => cases r1; cases r0 with
      | @lst a ws _ hx rl => exact ⟨_, ws.length, rfl, .inl ⟨ws, SqL.of (e _ _ hx), rfl⟩, k _ _ F H (.refl e) (.int _) (by rw [rl.length]; exact h)⟩
  · rename_i xs
    cases rl with
    | cons r0 r1 => cases r1; cases r0 with
      | @fl a ws _ hx rl => exact ⟨_, ws.length, rfl, .inl ⟨ws, ext_l e hx, rfl⟩, k _ _ F H (.refl e) (.int _) (by rw [rl.length]; exact h)⟩
  · cases rl with
    | cons r0 r1 => cases r1; cases r0; exact ⟨_, _, rfl, ⟨size_of h.1, rfl⟩, k _ _ F H (.refl e) (.int _) h.2⟩
  · exact h.elim
def dInt1 (C : Int → Prop) (g : Int → D) : List D → (D → Prop) → Prop := fun ds Φ => match ds with
  | [.int i] => C i ∧ Φ (g i)
  | _ => False
def dInt2 (g : Int → Int → D) : List D → (D → Prop) → Prop := fun ds Φ => match ds with
  | [.int i, .int j] => Φ (g i j)
  | _ => False
theorem sim_i2 {g : Int → Int → Int} : SimC K (fun xs H Q => ∃ i j, xs = [.int i, .int j] ∧ Q (.int (g i j)) H) (dInt2 fun i j => .int (g i j)) := by
  intro F H vs ds Φ Q e rl h k
  unfold dInt2 at h
  split at h
  · cases rl with
    | cons r0 r1 => cases r1 with
      | cons r1 r2 => cases r2; cases r0; cases r1; exact ⟨_, _, rfl, k _ _ F H (.refl e) (.int _) h⟩
  · exact h.elim
theorem sim_i1 {g : Int → Int} : SimC K (fun xs H Q => ∃ i, xs = [.int i] ∧ Q (.int (g i)) H) (dInt1 (fun _ => True) fun i => .int (g i)) := by
  intro F H vs ds Φ Q e rl h k
  unfold dInt1 at h
  split at h
  · cases rl with
    | cons r0 r1 => cases r1; cases r0; exact ⟨_, rfl, k _ _ F H (.refl e) (.int _) h.2⟩
  · exact h.elim
/-- int(n), int(flag) -/
def dIntOf : List D → (D → Prop) → Prop := fun ds Φ => match ds with
  | [.int i] => Φ (.int i)
  | [.bl b] => Φ (.int (if b then 1 else 0))
  | _ => False
theorem sim_int : SimC K (fun xs H Q => (∃ i, xs = [.int i] ∧ Q (.int i) H) ∨ ∃ k, xs = [.bl k] ∧ Q (.int (if k then 1 else 0)) H) dIntOf := by
  intro F H vs ds Φ Q e rl h k
  unfold dIntOf at h
  split at h
  · cases rl with
    | cons r0 r1 => cases r1; cases r0; exact .inl ⟨_, rfl, k _ _ F H (.refl e) (.int _) h⟩
  · cases rl with
    | cons r0 r1 => cases r1; cases r0; exact .inr ⟨_, rfl, k _ _ F H (.refl e) (.int _) h⟩
  · exact h.elim
/-- list(x), tuple(x) -/
def dListOf : List D → (List D → Prop) → Prop := fun ds Φ => match ds with
  | [.tup xs] => Φ xs
  | [.lst xs] => Φ xs
  | [.fl xs] => Φ xs
  | _ => False
theorem sim_list : SimCO K (fun xs H Q => ∃ p ys, xs = [.ref p] ∧ (SqL K H p ys ∨ SqT K H p ys) ∧ ∀ l, H l = none → Q (.ref l) (upd H l (.lst ys))) dListOf := by
  intro F H vs ds Φ Q e rl h k
  unfold dListOf at h
  split at h
  · cases rl with
    | cons r0 r1 => cases r1; cases r0 with
      | @tup a ws _ hx rl => exact ⟨a, ws, rfl, .inr (hx.sqt e), fun l nl => k l ws _ nl rl h⟩
  · cases rl with
    | cons r0 r1 => cases r1; cases r0 with
      | @lst a ws _ hx rl => exact ⟨a, ws, rfl, .inl (SqL.of (e _ _ hx)), fun l nl => k l ws _ nl rl h⟩
  · cases rl with
    | cons r0 r1 => cases r1; cases r0 with
      | @fl a ws _ hx rl => exact ⟨a, ws, rfl, .inl (ext_l e hx), fun l nl => k l ws _ nl rl h⟩
  · exact h.elim
def dTupOf : List D → (D → Prop) → Prop := fun ds Φ => match ds with
  | [.tup xs] => Φ (.tup xs)
  | [.lst xs] => Φ (.tup xs)
  | [.fl xs] => Φ (.tup xs)
  | _ => False
theorem sim_tuple : SimC K (fun xs H Q => ∃ p ys, xs = [.ref p] ∧ ((SqL K H p ys ∧ ∀ l, H l = none → Q (.ref l) (upd H l (.tup ys))) ∨ (SqT K H p ys ∧ Q (.ref p) H))) dTupOf := by
  intro F H vs ds Φ Q e rl h k
  unfold dTupOf at h
  split at h
  · cases rl with
    | cons r0 r1 => cases r1; cases r0 with
      | @tup a ws _ hx rl => exact ⟨a, ws, rfl, .inr ⟨hx.sqt e, k _ _ F H (.refl e) (.tup hx rl) h⟩⟩
  · cases rl with
    | cons r0 r1 => cases r1; cases r0 with
      | @lst a ws _ hx rl =>
        refine ⟨a, ws, rfl, .inl ⟨SqL.of (e _ _ hx), fun l nl => ?_⟩⟩
        have g := Grow.new (o := .tup ws) e nl
        exact k _ _ _ _ g (.tup (.inl upd_same) (rl.mono g.ff)) h
  · cases rl with
    | cons r0 r1 => cases r1; cases r0 with
      | @fl a ws _ hx rl =>
        refine ⟨a, ws, rfl, .inl ⟨ext_l e hx, fun l nl => ?_⟩⟩
        have g := Grow.new (o := .tup ws) e nl
        exact k _ _ _ _ g (.tup (.inl upd_same) (rl.mono g.ff)) h
  · exact h.elim
/-! sum, max, min, all, any of a list -/
def D.intsL : List D → Option (List Int)
  | [] => some []
  | .int i :: r => (D.intsL r).map (i :: ·)
  | _ :: _ => none
theorem intsL_map : ∀ ns : List Int, D.intsL (ns.map D.int) = some ns
  | [] => rfl
  | n :: ns => by
    show (D.intsL (ns.map D.int)).map (n :: ·) = _
    rw [intsL_map ns]; rfl
theorem intsL_of : ∀ {ds : List D} {ns : List Int}, D.intsL ds = some ns → ds = ns.map D.int
  | [], ns, h => by cases h; rfl
  | d :: r, ns, h => by
    cases d with
    | int i =>
      have h' : (D.intsL r).map (i :: ·) = some ns := h
      cases q : D.intsL r with
      | none => rw [q] at h'; cases h'
      | some ms =>
        rw [q] at h'; cases h'
        rw [intsL_of q]; rfl
    | _ => cases h
def D.blsL : List D → Option (List Bool)
  | [] => some []
  | .bl i :: r => (D.blsL r).map (i :: ·)
  | _ :: _ => none
theorem blsL_map : ∀ ns : List Bool, D.blsL (ns.map D.bl) = some ns
  | [] => rfl
  | n :: ns => by
    show (D.blsL (ns.map D.bl)).map (n :: ·) = _
    rw [blsL_map ns]; rfl
theorem blsL_of : ∀ {ds : List D} {ns : List Bool}, D.blsL ds = some ns → ds = ns.map D.bl
  | [], ns, h => by cases h; rfl
  | d :: r, ns, h => by
    cases d with
    | bl i =>
      have h' : (D.blsL r).map (i :: ·) = some ns := h
      cases q : D.blsL r with
      | none => rw [q] at h'; cases h'
      | some ms =>
        rw [q] at h'; cases h'
        rw [blsL_of q]; rfl
    | _ => cases h
def D.lstItems : D → Option (List D)
  | .lst xs => some xs
  | .fl xs => some xs
  | _ => none
theorem rep_lstItems {F H : Hp} {v : V} {d : D} {xs : List D} (e : Ext F H) (r : Rep K F v d) (h : d.lstItems = some xs) : ∃ a ws, v = .ref a ∧ SqL K H a ws ∧ RepL K F ws xs := by
  cases r with
  | @lst a ws _ hx rl => cases h; exact ⟨a, ws, rfl, SqL.of (e _ _ hx), rl⟩
  | @fl a ws _ hx rl => cases h; exact ⟨a, ws, rfl, ext_l e hx, rl⟩
  | _ => cases h
/-- f of one list -/
def dOnL (g : List D → (D → Prop) → Prop) : List D → (D → Prop) → Prop := fun ds Φ => match ds with
  | [d] => (match d.lstItems with
    | some xs => g xs Φ
    | none => False)
  | _ => False
def dSum : List D → (D → Prop) → Prop := dOnL fun xs Φ => match D.intsL xs with
  | some ns => Φ (.int ns.sum)
  | none => False
def dAll : List D → (D → Prop) → Prop := dOnL fun xs Φ => match D.blsL xs with
  | some bs => Φ (.bl (bs.all id))
  | none => False
def dAny : List D → (D → Prop) → Prop := dOnL fun xs Φ => match D.blsL xs with
  | some bs => Φ (.bl (bs.any id))
  | none => False
def dMaxL : List D → (D → Prop) → Prop := dOnL fun xs Φ => match D.intsL xs with
  | some ns => 0 < ns.length ∧ ∀ m, m ∈ ns → (∀ y, y ∈ ns → y ≤ m) → Φ (.int m)
  | none => False
def dMinL : List D → (D → Prop) → Prop := dOnL fun xs Φ => match D.intsL xs with
  | some ns => 0 < ns.length ∧ ∀ m, m ∈ ns → (∀ y, y ∈ ns → m ≤ y) → Φ (.int m)
  | none => False
theorem onL {F H : Hp} {vs : List V} {ds : List D} {g : List D → (D → Prop) → Prop} {Φ : D → Prop} (e : Ext F H) (rl : RepL K F vs ds) (h : dOnL g ds Φ) : ∃ a ws xs, vs = [.ref a] ∧ SqL K H a ws ∧ RepL K F ws xs ∧ g xs Φ := by
  unfold dOnL at h
  split at h
  · rename_i d
    cases rl with
    | cons r0 r1 =>
      cases r1
      cases q : d.lstItems with
      | none => rw [q] at h; exact h.elim
      | some xs =>
        rw [q] at h
        obtain ⟨a, ws, rfl, h1, h2⟩ := rep_lstItems e r0 q
        exact ⟨a, ws, xs, rfl, h1, h2, h⟩
  · exact h.elim
theorem sim_sum : SimC K (rSum K) dSum := by
  intro F H vs ds Φ Q e rl h k
  obtain ⟨a, ws, xs, rfl, h1, h2, h3⟩ := onL e rl h
  cases q : D.intsL xs with
  | none => rw [q] at h3; exact h3.elim
  | some ns =>
    rw [q] at h3
    rw [intsL_of q] at h2
    rw [h2.ints] at h1
    exact ⟨a, ns, rfl, h1, k _ _ F H (.refl e) (.int _) h3⟩
theorem sim_all : SimC K (rAll K) dAll := by
  intro F H vs ds Φ Q e rl h k
  obtain ⟨a, ws, xs, rfl, h1, h2, h3⟩ := onL e rl h
  cases q : D.blsL xs with
  | none => rw [q] at h3; exact h3.elim
  | some ns =>
    rw [q] at h3
    rw [blsL_of q] at h2
    rw [h2.bls] at h1
    exact ⟨a, ns, rfl, h1, k _ _ F H (.refl e) (.bl _) h3⟩
theorem sim_any : SimC K (rAny K) dAny := by
  intro F H vs ds Φ Q e rl h k
  obtain ⟨a, ws, xs, rfl, h1, h2, h3⟩ := onL e rl h
  cases q : D.blsL xs with
  | none => rw [q] at h3; exact h3.elim
  | some ns =>
    rw [q] at h3
    rw [blsL_of q] at h2
    rw [h2.bls] at h1
    exact ⟨a, ns, rfl, h1, k _ _ F H (.refl e) (.bl _) h3⟩
theorem sim_maxL : SimC K (rMax K) dMaxL := by
  intro F H vs ds Φ Q e rl h k
  obtain ⟨a, ws, xs, rfl, h1, h2, h3⟩ := onL e rl h
  cases q : D.intsL xs with
  | none => rw [q] at h3; exact h3.elim
  | some ns =>
    rw [q] at h3
    rw [intsL_of q] at h2
    rw [h2.ints] at h1
    exact ⟨a, ns, rfl, h1, h3.1, fun m m1 m2 => k _ _ F H (.refl e) (.int _) (h3.2 m m1 m2)⟩
theorem sim_minL : SimC K (rMin K) dMinL := by
  intro F H vs ds Φ Q e rl h k
  obtain ⟨a, ws, xs, rfl, h1, h2, h3⟩ := onL e rl h
  cases q : D.intsL xs with
  | none => rw [q] at h3; exact h3.elim
  | some ns =>
    rw [q] at h3
    rw [intsL_of q] at h2
    rw [h2.ints] at h1
    exact ⟨a, ns, rfl, h1, h3.1, fun m m1 m2 => k _ _ F H (.refl e) (.int _) (h3.2 m m1 m2)⟩
/-! isinstance -/
def D.tyN : D → Option String
  | .non => some "NoneType" | .bl _ => some "bool" | .int _ => some "int" | .str _ => some "str" | .tup _ => some "tuple" | .lst _ => some "list" | .fl _ => some "list" | .dk _ _ => none | .dt _ _ => none | .ty _ => none | .rf _ => none
theorem rep_tyX {F H : Hp} {v : V} {d : D} {n : String} (e : Ext F H) (r : Rep K F v d) (h : d.tyN = some n) : TyX K H v (.type n) := by
  cases r with
  | non => cases h; exact .base .non
  | bl b => cases h; exact .base (.bl b)
  | int i => cases h; exact .base (.int i)
  | str x => cases h; exact .base (.str x)
  | ty n => cases h
  | rf a => cases h
  | tup hx rl =>
    cases h
    rcases hx with hx | ⟨o, its, n, hk, hc, _⟩
    · exact .base (.tup (e _ _ hx))
    · exact .kTuple hk hc
  | lst hx rl => cases h; exact .base (.lst (e _ _ hx))
  | fl hx rl =>
    cases h
    rcases hx with (hx | ⟨o, hx⟩) | ⟨o, its, n, hk, hc, _⟩
    · exact .base (.lst (e _ _ hx))
    · exact .base (.frz (e _ _ hx))
    · exact .kList hk hc
  | dk => cases h
  | dt => cases h
/-- is a value of the type a one of the type b -/
def isaN (a b : String) : Bool := a == b || (a == "bool" && b == "int")
def tyNs : List String := ["NoneType", "bool", "int", "str", "tuple", "list"]
def tyTs : List String := ["bool", "int", "str", "tuple", "list", "dict"]
theorem kit_tab : (tyNs.all fun a => tyTs.all fun b => kitB a b == some (isaN a b)) = true := by decide +kernel
theorem tyN_mem {d : D} {n : String} (h : d.tyN = some n) : n ∈ tyNs := by
  cases d <;> first | (cases h; decide) | cases h
def dIsi : List D → (D → Prop) → Prop := fun ds Φ => match ds with
  | [d, .ty n] => (match d.tyN with
    | some t => n ∈ tyTs ∧ Φ (.bl (isaN t n))
    | none => False)
  | _ => False
theorem sim_isi : SimC K (rIsi K) dIsi := by
  intro F H vs ds Φ Q e rl h k
  unfold dIsi at h
  split at h
  · rename_i d n
    cases rl with
    | cons r0 r1 => cases r1 with
      | cons r1 r2 =>
        cases r2; cases r1
        split at h
        · rename_i t q
          refine ⟨_, _, .type t, .type n, isaN t n, rfl, .ty n, rep_tyX e r0 q, kit_ty ?_, k _ _ F H (.refl e) (.bl _) h.2⟩
          have h1 := List.all_eq_true.mp (List.all_eq_true.mp kit_tab t (tyN_mem q)) n h.1
          simpa using h1
        · exact h.elim
  · exact h.elim
/-- isinstance(x, (T, U)) -/
def tyL : List D → Option (List String)
  | [] => some []
  | .ty n :: r => (tyL r).map (n :: ·)
  | _ :: _ => none
def dIsiT : List D → (D → Prop) → Prop := fun ds Φ => match ds with
  | [d, .tup ts] => (match d.tyN, tyL ts with
    | some t, some ns => (∀ n ∈ ns, n ∈ tyTs) ∧ Φ (.bl (ns.any (isaN t)))
    | _, _ => False)
  | _ => False
theorem tyL_rep {F : Hp} : ∀ {vs : List V} {ts : List D} {ns : List String}, RepL K F vs ts → tyL ts = some ns → vs = ns.map V.ty
  | _, _, _, .nil, h => by cases h; rfl
  | _, d :: ts, ns, .cons h r, q => by
    cases d with
    | ty n =>
      have q' : (tyL ts).map (n :: ·) = some ns := q
      cases z : tyL ts with
      | none => rw [z] at q'; cases q'
      | some ms =>
        rw [z] at q'; cases q'
        cases h
        rw [tyL_rep r z]; rfl
    | _ => cases q
theorem kitAny_of {t : String} (ht : t ∈ tyNs) : ∀ {ns : List String}, (∀ n ∈ ns, n ∈ tyTs) → PySem.W.kitAny K (.type t) (ns.map Value.type) = some (ns.any (isaN t))
  | [], _ => rfl
  | n :: ns, h => by
    have h1 := List.all_eq_true.mp (List.all_eq_true.mp kit_tab t ht) n (h n List.mem_cons_self)
    have h2 : kitB t n = some (isaN t n) := by simpa using h1
    have ih := kitAny_of ht (ns := ns) fun m hm => h m (List.mem_cons_of_mem _ hm)
    show PySem.W.kitAny K (.type t) (.type n :: ns.map Value.type) = _
    rw [List.any_cons]
    refine kitAny_cons (kit_ty h2) (fun e => ?_) (fun e => ?_)
    · rw [ih, e]; rfl
    · rw [e]; rfl
theorem clsV_ty : ∀ ns : List String, Paired ClsV (ns.map V.ty) (ns.map Value.type)
  | [] => .nil
  | n :: ns => .cons (.ty n) (clsV_ty ns)
theorem vals_ty : ∀ {ns : List String} {us : List Value}, Vals (ns.map V.ty) us → us = ns.map Value.type
  | [], us, h => by cases h; rfl
  | n :: ns, us, h => by
    rw [List.map_cons] at h
    cases h with
    | cons h r =>
      cases h
      rw [vals_ty r]; rfl
theorem sim_isiT : SimC K (fun xs H Q => rIsiT K xs H Q ∨ rIsiK K xs H Q) dIsiT := by
  intro F H vs ds Φ Q e rl h k
  unfold dIsiT at h
  split at h
  · rename_i d ts
    cases rl with
    | cons r0 r1 => cases r1 with
      | cons r1 r2 =>
        cases r2
        split at h
        · rename_i t ns q1 q2
          cases r1 with
          | @tup a ws _ hx rlx =>
            have ew := tyL_rep rlx q2
            subst ew
            rcases hx with hx | ⟨⟨oc, od, dt, osl⟩, its, n, hk, hc, hs, hz, rv⟩
            · exact .inl ⟨_, a, ns.map V.ty, .type t, ns.map Value.type, _, rfl, e _ _ hx, clsV_ty ns, rep_tyX e r0 q1, kitAny_of (tyN_mem q1) h.1, k _ _ F H (.refl e) (.bl _) h.2⟩
            · have ei : its.toList = ns.map Value.type := vals_ty rv
              simp only at hc hs
              subst hc hs
              exact .inr ⟨_, a, od, ns.map Value.type, n, osl, .type t, _, rfl, by rw [hk, ← ei], rep_tyX e r0 q1, kitAny_of (tyN_mem q1) h.1, k _ _ F H (.refl e) (.bl _) h.2⟩
        · exact h.elim
  · exact h.elim
end
end DL
namespace DL
open PySem PySem.Spec PyProof.Rows L2

section
variable {X : Cx} {W : WX} {K : PySem.W.Frag}
/-! ### a comprehension stored -/
theorem ds_lcO (i : Nat) {y : Str} {py pos spos : Pos} {elt tg iter : Expr} {ifs : List Expr} {scope : Scope} {own : List (Str × Nat)} {vs : List Nat} {wi : TI} {di : DIv} {g : TG} {dg : DGv} {tt : TT} {dt : DTv} {te : TE} {de : DEv} {sl : List Nat} (hc : X.calm = true) (hN : X.N.Nodup) (hi : DI X W tg iter wi di) (ok : BlkOk X.N X.env.scope scope own)
    (hg : ∀ (s : Shared) (H : Hp) (C : Addr) (cl : List (Str × Addr)) (fp : List Addr), DG (X.blk s H scope (compEnvC scope cl C X.env) fp) tg g sl dg) (ht : ∀ (s : Shared) (H : Hp) (C : Addr) (cl : List (Str × Addr)) (fp : List Addr), DTs (X.blk s H scope (compEnvC scope cl C X.env) fp) ifs tt dt)
    (he : ∀ (s : Shared) (H : Hp) (C : Addr) (cl : List (Str × Addr)) (fp : List Addr), DE (X.blk s H scope (compEnvC scope cl C X.env) fp) W0 elt te de) (hsw : swapsWith (.ListComp elt [⟨tg, iter, ifs, 0⟩] scope pos) (some (.Name y py)) spos.line X.env = pure true) (hy : X.N[i]? = some y := by rfl) (hyl : X.env.scope.names.lookup y = some .local := by rfl) (hsl : ∀ i ∈ sl, i ∈ own.map (·.2) := by decide) (hs : ∀ x, foldedSetIterable iter X.env x = pure x := by intro _; rfl) (hvs : own.map (·.2) = vs := by rfl) :
    DS X W (.Assign [.Name y py] (.ListComp elt [⟨tg, iter, ifs, 0⟩] scope pos) spos) (tAsg (tLc wi g tt te vs) (gName i)) (dAsgO (dLc di dg dt de vs) i) := by
  subst hvs
  exact
  ⟨ps_setLc hc hN hy hyl hsw hi.pi ok (fun s H C cl fp => (hg s H C cl fp).pg) (fun s H C cl fp => (ht s H C cl fp).pts) (fun s H C cl fp => (he s H C cl fp).pe) hs, sim_asgO (do_lc (pos := pos) hc hN hi ok hg ht he hsl hs).sim⟩
theorem ds_lc (i : Nat) {y : Str} {py pos spos : Pos} {elt tg iter : Expr} {ifs : List Expr} {scope : Scope} {own : List (Str × Nat)} {vs : List Nat} {wi : TI} {di : DIv} {g : TG} {dg : DGv} {tt : TT} {dt : DTv} {te : TE} {de : DEv} {sl : List Nat} (hc : X.calm = true) (hN : X.N.Nodup) (hi : DI X W tg iter wi di) (ok : BlkOk X.N X.env.scope scope own)
    (hg : ∀ (s : Shared) (H : Hp) (C : Addr) (cl : List (Str × Addr)) (fp : List Addr), DG (X.blk s H scope (compEnvC scope cl C X.env) fp) tg g sl dg) (ht : ∀ (s : Shared) (H : Hp) (C : Addr) (cl : List (Str × Addr)) (fp : List Addr), DTs (X.blk s H scope (compEnvC scope cl C X.env) fp) ifs tt dt)
    (he : ∀ (s : Shared) (H : Hp) (C : Addr) (cl : List (Str × Addr)) (fp : List Addr), DE (X.blk s H scope (compEnvC scope cl C X.env) fp) W0 elt te de) (hsw : swapsWith (.ListComp elt [⟨tg, iter, ifs, 0⟩] scope pos) (some (.Name y py)) spos.line X.env = pure true) (hy : X.N[i]? = some y := by rfl) (hyl : X.env.scope.names.lookup y = some .local := by rfl) (hsl : ∀ i ∈ sl, i ∈ own.map (·.2) := by decide) (hs : ∀ x, foldedSetIterable iter X.env x = pure x := by intro _; rfl) (hvs : own.map (·.2) = vs := by rfl) :
    DS X W (.Assign [.Name y py] (.ListComp elt [⟨tg, iter, ifs, 0⟩] scope pos) spos) (tAsg (tLc wi g tt te vs) (gName i)) (dAsg (dFrz (dLc di dg dt de vs)) (dgName i)) := by
  subst hvs
  exact
  ⟨ps_setLc hc hN hy hyl hsw hi.pi ok (fun s H C cl fp => (hg s H C cl fp).pg) (fun s H C cl fp => (ht s H C cl fp).pts) (fun s H C cl fp => (he s H C cl fp).pe) hs, sim_asg (sim_frz (do_lc (pos := pos) hc hN hi ok hg ht he hsl hs).sim) (dg_name (pos := py) i hN hy (.inl hyl) (.inr hyl)).sim⟩

/-! ### an own list changed -/
def dApp (i : Nat) (de : DEv) : DSv := fun En ρ => match ρ[i]? with
  | some (.ol _ _) => de ρ (fun x ρ1 => match ρ1[i]? with
    | some (.ol io xs) => xs.length < 1000000 ∧ En.nx (ρ1.set i (.ol io (xs ++ [x])))
    | _ => False) En.ex
  | _ => False
theorem sim_app {i : Nat} {te : TE} {de : DEv} (he : SimE K W te de) : SimS K W (tDrop (tBM K "list" rAppend (tVar i) (tCons te tNil))) (dApp i de) := by
  intro C F H σ ρ En D hK J q E
  unfold dApp at q
  split at q
  · rename_i io0 xs0 e0
    obtain ⟨p, e1, e2, _, vs0, h0, _⟩ := J.ref e0 rfl
    refine ⟨.ref p, e1, .inl ⟨rfl, vs0, SqL.of h0⟩, ?_⟩
    refine he C F H σ ρ _ _ _ hK J q (fun v d ρ1 F1 H1 J1 ee r1 q1 => ?_) (E.ex σ)
    split at q1
    · rename_i io xs e3
      obtain ⟨p', e1', e2', _, vs, h1, rl⟩ := J1.ref e3 rfl
      rw [e2] at e2'; cases e2'
      refine ⟨p, vs, v, rfl, rfl, h1, size_lt (by rw [rl.length]; exact q1.1), ?_⟩
      exact E.nx σ _ F1 _ (J1.write (sv0 := .ol io (xs ++ [d])) e3 rfl e2 rfl ⟨vs ++ [v], upd_same, rl.append (.one (by rw [hK]; exact r1))⟩) ee q1.2
    · exact q1.elim
  · exact q.elim
theorem ds_app (i : Nat) {x : Str} {e : Expr} {te : TE} {de : DEv} {p apos cpos pos : Pos} (hx : PE X (.Name x p) (tVar i)) (he : DE X W e te de)
    (h : PE X (.Call (.Attribute (.Name x p) "append" apos) [e] [] cpos) (tBM X.K "list" rAppend (tVar i) (tCons te tNil))) (hs : swapsWith (.Call (.Attribute (.Name x p) "append" apos) [e] [] cpos) none pos.line X.env = pure false := by rfl) :
    DS X W (.Expr (.Call (.Attribute (.Name x p) "append" apos) [e] [] cpos) pos) (tDrop (tBM X.K "list" rAppend (tVar i) (tCons te tNil))) (dApp i de) := ⟨ps_expr h hs, sim_app he.sim⟩
/-- xs.extend(ys), ys a list -/
def dExt (i : Nat) (de : DEv) : DSv := fun En ρ => match ρ[i]? with
  | some (.ol _ _) => de ρ (fun x ρ1 => match ρ1[i]?, x with
    | some (.ol io xs), .lst ys => xs.length + ys.length < 1000000 ∧ En.nx (ρ1.set i (.ol io (xs ++ ys)))
    | _, _ => False) En.ex
  | _ => False
theorem sim_ext {i : Nat} {te : TE} {de : DEv} (he : SimE K W te de) : SimS K W (tDrop (tBM K "list" rExtend (tVar i) (tCons te tNil))) (dExt i de) := by
  intro C F H σ ρ En D hK J q E
  unfold dExt at q
  split at q
  · rename_i io0 xs0 e0
    obtain ⟨p, e1, e2, _, vs0, h0, _⟩ := J.ref e0 rfl
    refine ⟨.ref p, e1, .inl ⟨rfl, vs0, SqL.of h0⟩, ?_⟩
    refine he C F H σ ρ _ _ _ hK J q (fun v d ρ1 F1 H1 J1 ee r1 q1 => ?_) (E.ex σ)
    split at q1
    · rename_i io xs ys e3
      obtain ⟨p', e1', e2', _, vs, h1, rl⟩ := J1.ref e3 rfl
      rw [e2] at e2'; cases e2'
      cases r1 with
      | @lst b ws _ hb rb =>
        refine ⟨p, b, vs, ws, rfl, rfl, h1, J1.fh _ _ hb, Nat.le_of_lt (size_lt (by rw [rl.length, rb.length]; exact q1.1)), ?_⟩
        exact E.nx σ _ F1 _ (J1.write (sv0 := .ol io (xs ++ ys)) e3 rfl e2 rfl ⟨vs ++ ws, upd_same, rl.append (by rw [hK]; exact rb)⟩) ee q1.2
    · exact q1.elim
  · exact q.elim
theorem ds_ext (i : Nat) {x : Str} {e : Expr} {te : TE} {de : DEv} {p apos cpos pos : Pos} (he : DE X W e te de)
    (h : PE X (.Call (.Attribute (.Name x p) "extend" apos) [e] [] cpos) (tBM X.K "list" rExtend (tVar i) (tCons te tNil))) (hs : swapsWith (.Call (.Attribute (.Name x p) "extend" apos) [e] [] cpos) none pos.line X.env = pure false := by rfl) :
    DS X W (.Expr (.Call (.Attribute (.Name x p) "extend" apos) [e] [] cpos) pos) (tDrop (tBM X.K "list" rExtend (tVar i) (tCons te tNil))) (dExt i de) := ⟨ps_expr h hs, sim_ext he.sim⟩
/-- xs[k] = e -/
def dSetI (i : Nat) (de dk : DEv) : DSv := fun En ρ => de ρ (fun x ρ1 => match ρ1[i]? with
  | some (.ol _ _) => dk ρ1 (fun j ρ2 => match ρ2[i]?, j with
    | some (.ol io xs), .int k => (match ixN xs.length k with
      | some n => En.nx (ρ2.set i (.ol io (xs.set n x)))
      | none => False)
    | _, _ => False) En.ex
  | _ => False) En.ex
theorem sim_setI {i : Nat} {te tk : TE} {de dk : DEv} (he : SimE K W te de) (hk : SimE K W tk dk) : SimS K W (tAsg te (gSub (tVar i) tk rSetL)) (dSetI i de dk) := by
  intro C F H σ ρ En D hK J q E
  refine he C F H σ ρ _ _ _ hK J q (fun v d ρ1 F1 H1 J1 ee r1 q1 => ?_) (E.ex σ)
  split at q1
  · rename_i io0 xs0 e0
    obtain ⟨p, e1, e2, _⟩ := J1.ref e0 rfl
    refine ⟨.ref p, e1, ?_⟩
    refine hk C F1 H1 σ ρ1 _ _ _ hK J1 q1 (fun u j ρ2 F2 H2 J2 e3 r2 q2 => ?_) ((E.ex σ).ext ee)
    split at q2
    · rename_i io xs k e4
      split at q2
      · rename_i n en
        cases r2
        obtain ⟨p', e1', e2', _, vs, h1, rl⟩ := J2.ref e4 rfl
        rw [e2] at e2'; cases e2'
        refine ⟨p, vs, k, n, rfl, rfl, h1, by rw [rl.length]; exact en, ?_⟩
        exact E.nx σ _ F2 _ (J2.write (sv0 := .ol io (xs.set n d)) e4 rfl e2 rfl ⟨vs.set n v, upd_same, RepL.set n ((by rw [hK]; exact r1 : Rep C.K F1 v d).mono e3) rl⟩) (ee.trans e3) q2
      · exact q2.elim
    · exact q2.elim
  · exact q1.elim
theorem ds_setI (i : Nat) {x : Str} {k e : Expr} {te tk : TE} {de dk : DEv} {p spos pos : Pos} (hx : PE X (.Name x p) (tVar i)) (he : DE X W e te de) (hk : DE X W k tk dk)
    (ha : ∀ v, assign (.Subscript (.Name x p) k spos) X.env v = (do
      let ov ← holding [v] (eval (.Name x p) X.env)
      let iv ← holding [v, ov] (eval k X.env)
      standAt spos
      holding [v, ov, iv] (setItem ov iv v)
      release [v, ov, iv] []) := by intro _; rfl) (hs : swapsWithSole [.Subscript (.Name x p) k spos] e pos.line X.env = pure false := by rfl) (hw : swappedStores [.Subscript (.Name x p) k spos] e X.env = pure none := by rfl)
    (h1 : (assignEach [.Subscript (.Name x p) k spos] X.env).map (·.2) = [assign (.Subscript (.Name x p) k spos) X.env] := by rfl) :
    DS X W (.Assign [.Subscript (.Name x p) k spos] e pos) (tAsg te (gSub (tVar i) tk rSetL)) (dSetI i de dk) := ⟨ps_asg he.pe (pg_sub hx hk.pe set_list ha) hs hw h1, sim_setI he.sim hk.sim⟩
/-! xs[k] += e -/
def rGetL (K : PySem.W.Frag) : V → V → Hp → VK → Prop := fun x y H Q => ∃ p xs i v, x = .ref p ∧ y = .int i ∧ SqL K H p xs ∧ 0 ≤ i ∧ xs[i.toNat]? = some v ∧ Q v H
theorem get_list : PGet X (rGetL X.K) := by
  intro pins s σ H x y v u Q J rx ry h
  obtain ⟨p, xs, i, z, rfl, rfl, hq, h0, he, q⟩ := h
  cases rx
  obtain ⟨t, rfl⟩ := ry
  obtain ⟨its, r, pl, hz⟩ := J.list hq
  obtain ⟨w, ew, rw'⟩ := r.get he
  have hl := r.length
  have hn := line63
  have hi : i.toNat < xs.length := (List.getElem?_eq_some_iff.mp he).1
  exact wpAny_getItem_list pl.isList h0 (by omega) (by simpa using ew) ⟨z, H, J, rw', q⟩
def dAugL (f : Int → Int → Int) (i : Nat) (dk de : DEv) : DSv := fun En ρ => match ρ[i]? with
  | some (.ol _ _) => dk ρ (fun j ρ1 => match ρ1[i]?, j with
    | some (.ol _ xs), .int k => 0 ≤ k ∧ (match xs[k.toNat]? with
      | some (.int a) => de ρ1 (fun y ρ2 => match ρ2[i]?, y with
        | some (.ol io ys), .int b => k.toNat < ys.length ∧ En.nx (ρ2.set i (.ol io (ys.set k.toNat (.int (f a b)))))
        | _, _ => False) En.ex
      | _ => False)
    | _, _ => False) En.ex
  | _ => False
theorem ixN_of {n : Nat} {k : Int} (h0 : 0 ≤ k) (h : k.toNat < n) : ixN n k = some k.toNat := by
  unfold ixN
  rw [if_pos h0, if_pos (by omega)]
theorem sim_augL {f : Int → Int → Int} {i : Nat} {te tk : TE} {de dk : DEv} (hk : SimE K W tk dk) (he : SimE K W te de) : SimS K W (tAugS (tVar i) tk te (rGetL K) (ipI f) rSetL) (dAugL f i dk de) := by
  intro C F H σ ρ En D hK J q E
  unfold dAugL at q
  split at q
  · rename_i io0 xs0 e0
    obtain ⟨p, e1, e2, _⟩ := J.ref e0 rfl
    refine ⟨.ref p, e1, ?_⟩
    refine hk C F H σ ρ _ _ _ hK J q (fun u j ρ1 F1 H1 J1 e3 r1 q1 => ?_) (E.ex σ)
    split at q1
    · rename_i io xs k e4
      obtain ⟨k0, q1⟩ := q1
      split at q1
      · rename_i a ea
        cases r1
        obtain ⟨p', _, e2', _, vs, h1, rl⟩ := J1.ref e4 rfl
        rw [e2] at e2'; cases e2'
        obtain ⟨v, ev, rv⟩ := rl.get ea
        cases rv
        refine ⟨p, vs, k, _, rfl, rfl, SqL.of h1, k0, ev, ?_⟩
        refine he C F1 H1 σ ρ1 _ _ _ hK J1 q1 (fun u y ρ2 F2 H2 J2 e5 r2 q2 => ?_) ((E.ex σ).ext e3)
        split at q2
        · rename_i io2 ys b e6
          cases r2
          obtain ⟨p'', _, e2'', _, ws, h2, rl2⟩ := J2.ref e6 rfl
          rw [e2] at e2''; cases e2''
          refine ⟨a, b, rfl, rfl, p, ws, k, k.toNat, rfl, rfl, h2, ixN_of k0 (by rw [rl2.length]; exact q2.1), ?_⟩
          exact E.nx σ _ F2 _ (J2.write (sv0 := .ol io2 (ys.set k.toNat (.int (f a b)))) e6 rfl e2 rfl ⟨_, upd_same, RepL.set k.toNat (.int _) rl2⟩) (e3.trans e5) q2.2
        · exact q2.elim
      · exact q1.elim
    · exact q1.elim
  · exact q.elim
theorem ds_augL {f : Int → Int → Int} (i : Nat) {x : Str} {k e : Expr} {te tk : TE} {de dk : DEv} {op : Operator} {p tpos pos : Pos} (hx : PE X (.Name x p) (tVar i)) (hk : DE X W k tk dk) (he : DE X W e te de) (ho : PIp X op (ipI f))
    (ha : ∀ ov iv new, augStore k ov iv new = (do holding [new, ov, iv] (setItem ov iv new); release [new, ov, iv] []; pure .next) := by intros; rfl) : DS X W (.AugAssign (.Subscript (.Name x p) k tpos) op e pos) (tAugS (tVar i) tk te (rGetL X.K) (ipI f) rSetL) (dAugL f i dk de) :=
  ⟨ps_augS hx hk.pe get_list he.pe ho set_list ha, sim_augL hk.sim he.sim⟩
/-! ### an own list looked at, or left as it is for good -/
/-- from here on slot i is data -/
def dStill (i : Nat) (ds : DSv) : DSv := fun En ρ => match ρ[i]? with
  | some (.ol false xs) => ds En (ρ.set i (.d (.lst xs)))
  | _ => False
theorem sim_still {i : Nat} {ts : TS} {ds : DSv} (h : SimS K W ts ds) : SimS K W ts (dStill i ds) := by
  intro C F H σ ρ En D hK J q E
  unfold dStill at q
  split at q
  · rename_i xs e
    obtain ⟨F', J', ee⟩ := J.still e
    exact h C F' H σ _ En D hK J' q (E.ext ee)
  · exact q.elim
theorem DS.still (i : Nat) {st : Stmt} {ts : TS} {ds : DSv} (h : DS X W st ts ds) : DS X W st ts (dStill i ds) := ⟨h.ps, sim_still h.sim⟩
theorem DSs.still (i : Nat) {st : List Stmt} {ts : TS} {ds : DSv} (h : DSs X W st ts ds) : DSs X W st ts (dStill i ds) := ⟨h.ps, sim_still h.sim⟩
/-- an own list whose items are told by a word: its items -/
def dOpen (i : Nat) (ds : DSv) : DSv := fun En ρ => match ρ[i]? with
  | some (.op io P) => ∀ xs, P xs → ds En (ρ.set i (.ol io xs))
  | _ => False
theorem I.opened {C : Cc} {F H : Hp} {σ : L2.St} {ρ : List SV} (J : I C F H σ ρ) {i : Nat} {io : Bool} {P : List D → Prop} (e : ρ[i]? = some (.op io P)) : ∃ xs, P xs ∧ I C F H σ (ρ.set i (.ol io xs)) := by
  have hl : i < ρ.length := (List.getElem?_eq_some_iff.mp e).1
  obtain ⟨p, ep, ow, vs, xs, hp, rl, px⟩ := J.slo e rfl
  refine ⟨xs, px, J.f0, J.fh, J.fr, J.kp, by simpa using J.len, fun j sv ej => ?_, fun j k a sv sv' e1 e2 o1 o2 => ?_, fun j a h => ?_⟩
  · by_cases z : i = j
    · subst z
      rw [List.getElem?_set_self hl] at ej; cases ej
      exact ⟨p, ep, ow, vs, hp, rl⟩
    · rw [List.getElem?_set_ne z] at ej; exact J.sl j sv ej
  · have f : ∀ (k : Nat) (sv : SV), (ρ.set i (.ol io xs))[k]? = some sv → sv.own = true → ∃ sv1, ρ[k]? = some sv1 ∧ sv1.own = true := fun k sv e' o => by
      by_cases z : i = k
      · subst z; exact ⟨_, e, rfl⟩
      · rw [List.getElem?_set_ne z] at e'; exact ⟨sv, e', o⟩
    obtain ⟨u1, f1, g1⟩ := f j sv e1 o1
    obtain ⟨u2, f2, g2⟩ := f k sv' e2 o2
    exact J.ap j k a u1 u2 f1 f2 g1 g2
  · obtain ⟨sv, ej, q⟩ := J.ios j a h
    by_cases z : i = j
    · subst z
      rw [e] at ej; cases ej
      exact ⟨.ol io xs, List.getElem?_set_self hl, q⟩
    · exact ⟨sv, by rw [List.getElem?_set_ne z]; exact ej, q⟩
theorem sim_open {i : Nat} {ts : TS} {ds : DSv} (h : SimS K W ts ds) : SimS K W ts (dOpen i ds) := by
  intro C F H σ ρ En D hK J q E
  unfold dOpen at q
  split at q
  · rename_i io P e
    obtain ⟨xs, px, J'⟩ := J.opened e
    exact h C F H σ _ En D hK J' (q xs px) E
  · exact q.elim
theorem DSs.opn (i : Nat) {st : List Stmt} {ts : TS} {ds : DSv} (h : DSs X W st ts ds) : DSs X W st ts (dOpen i ds) := ⟨h.ps, sim_open h.sim⟩
/-- data without lists, dicts: it leans on tuples alone -/
def D.flatT : D → Bool
  | .lst _ => false | .fl _ => false | .dk _ _ => false | .dt _ _ => false
  | .tup xs => flatTs xs
  | _ => true
where flatTs : List D → Bool
  | [] => true
  | x :: xs => D.flatT x && flatTs xs
mutual
theorem rep_flat {F F' : Hp} (e : ∀ a vs, F a = some (.tup vs) → F' a = some (.tup vs)) : ∀ {d : D} {v : V}, Rep K F v d → d.flatT = true → Rep K F' v d
  | _, _, .non, _ => .non
  | _, _, .bl b, _ => .bl b
  | _, _, .int i, _ => .int i
  | _, _, .str x, _ => .str x
  | _, _, .ty n, _ => .ty n
  | _, _, .rf a, _ => .rf a
  | .tup ds, _, .tup h r, q => .tup (by
      rcases h with h | h
      · exact .inl (e _ _ h)
      · exact .inr h) (rep_flats e r q)
  | _, _, .lst _ _, q => by cases q
  | _, _, .fl _ _, q => by cases q
  | _, _, .dk _ _ _, q => by cases q
  | _, _, .dt _ _ _, q => by cases q
theorem rep_flats {F F' : Hp} (e : ∀ a vs, F a = some (.tup vs) → F' a = some (.tup vs)) : ∀ {ds : List D} {vs : List V}, RepL K F vs ds → D.flatT.flatTs ds = true → RepL K F' vs ds
  | _, _, .nil, _ => .nil
  | d :: ds, _, .cons h r, q => by
    have q' : (D.flatT d && D.flatT.flatTs ds) = true := q
    rw [Bool.and_eq_true] at q'
    exact .cons (rep_flat e h q'.1) (rep_flats e r q'.2)
end
end
end DL
namespace DL
open PySem PySem.Spec PyProof.Rows L2

/-! ### things of one's own, looked at -/
def SV.look : SV → SV
  | .un => .un
  | .d x => .d x
  | .ol _ xs => .d (.lst xs)
  | .op _ _ => .un
  | .ok _ ks xs => .d (.dk ks xs)
  | .ot _ ks xs => .d (.dt ks xs)
  | .ex a cls dx nm x => .ex a cls dx nm x
def SV.seen : SV → Bool
  | .ol _ _ => true | .ok _ _ _ => true | .ot _ _ _ => true | _ => false
theorem SV.own_seen {s : SV} (h : s.seen = true) : s.own = true := by cases s <;> first | rfl | cases h
theorem SV.look_own (s : SV) : s.look.own = false := by cases s <;> rfl
def lookAll (ρ : List SV) : List SV := ρ.map SV.look
section
variable {C : Cc} {F H F' H' : Hp} {σ : L2.St} {ρ : List SV}
def Bor (σ : L2.St) (ρ : List SV) (a : Addr) : Prop := ∃ (i : Nat) (s : SV), ρ[i]? = some s ∧ s.seen = true ∧ σ.getD i none = some (V.ref a)
open Classical in
noncomputable def lookF (F H : Hp) (σ : L2.St) (ρ : List SV) : Hp := fun a => if Bor σ ρ a then H a else F a
open Classical in
noncomputable def unlookF (F : Hp) (σ : L2.St) (ρ : List SV) : Hp := fun a => if Bor σ ρ a then none else F a
noncomputable def lookC (C : Cc) (F H : Hp) (σ : L2.St) (ρ : List SV) : Cc := ⟨C.K, lookF F H σ ρ, H, fun _ _ => False, fun _ _ _ h => h.elim⟩
theorem I.bor (J : I C F H σ ρ) {a : Addr} (h : Bor σ ρ a) : F a = none ∧ ∃ o, H a = some o := by
  obtain ⟨i, s, e, hs, ea⟩ := h
  obtain ⟨p, e1, ⟨e2, _⟩, e4⟩ := J.slo e (SV.own_seen hs)
  rw [ea] at e1; cases e1
  obtain ⟨o, ho, _⟩ := SV.at_some e4
  exact ⟨e2, o, ho⟩
theorem lookF_yes {a : Addr} (h : Bor σ ρ a) : lookF F H σ ρ a = H a := by unfold lookF; rw [if_pos h]
theorem lookF_no {a : Addr} (h : ¬ Bor σ ρ a) : lookF F H σ ρ a = F a := by unfold lookF; rw [if_neg h]
theorem unlookF_yes {a : Addr} (h : Bor σ ρ a) : unlookF F σ ρ a = none := by unfold unlookF; rw [if_pos h]
theorem unlookF_no {a : Addr} (h : ¬ Bor σ ρ a) : unlookF F σ ρ a = F a := by unfold unlookF; rw [if_neg h]
theorem I.lookE (J : I C F H σ ρ) : Ext F (lookF F H σ ρ) := fun a o e => by
  by_cases h : Bor σ ρ a
  · rw [(J.bor h).1] at e; cases e
  · rw [lookF_no h]; exact e
theorem I.look (J : I C F H σ ρ) : I (lookC C F H σ ρ) (lookF F H σ ρ) H σ (lookAll ρ) := by
  have el : ∀ (i : Nat) (sv : SV), (lookAll ρ)[i]? = some sv → ∃ s, ρ[i]? = some s ∧ sv = s.look := fun i sv e => by
    unfold lookAll at e
    rw [List.getElem?_map] at e
    cases q : ρ[i]? with
    | none => rw [q] at e; cases e
    | some s => rw [q] at e; exact ⟨s, rfl, (Option.some.inj e).symm⟩
  refine ⟨.refl _, fun a o e => ?_, fun a o e => .inl ⟨o, e⟩, fun a o e _ => e, by unfold lookAll; rw [List.length_map]; exact J.len, fun i sv e => ?_, fun i j a sv sv' e1 e2 o1 => ?_, fun i a h => h.elim⟩
  · by_cases h : Bor σ ρ a
    · rw [lookF_yes h] at e; exact e
    · rw [lookF_no h] at e; exact J.fh a o e
  · obtain ⟨s, es, rfl⟩ := el i sv e
    have q := J.sl i s es
    have hb : ∀ p, s.seen = true → σ.getD i none = some (V.ref p) → lookF F H σ ρ p = H p := fun p hs ep => lookF_yes ⟨i, s, es, hs, ep⟩
    cases s with
    | un => trivial
    | d x => obtain ⟨v, e1, r⟩ := q; exact ⟨v, e1, r.mono J.lookE⟩
    | ex _ _ _ _ _ => exact ⟨q.1, q.2.mono J.lookE⟩
    | ol io xs =>
      obtain ⟨p, e1, _, vs, e3, r⟩ := q
      exact ⟨.ref p, e1, .lst ((hb p rfl e1).trans e3) (r.mono J.lookE)⟩
    | op io P => trivial
    | ok io ks xs =>
      obtain ⟨p, e1, _, kvs, e3, e4, r⟩ := q
      exact ⟨.ref p, e1, .dk (.inl ((hb p rfl e1).trans e3)) e4 (r.mono J.lookE)⟩
    | ot io ks xs =>
      obtain ⟨p, e1, _, kvs, e3, e4, r⟩ := q
      exact ⟨.ref p, e1, .dt (.inl ((hb p rfl e1).trans e3)) e4 (r.mono J.lookE)⟩
  · obtain ⟨s, es, rfl⟩ := el i sv e1
    rw [SV.look_own] at o1; cases o1
theorem I.unlook {F2 H2 : Hp} {ρ2 : List SV} (J : I C F H σ ρ) (J2 : I (lookC C F H σ ρ) F2 H2 σ ρ2) : I C (unlookF F2 σ ρ) H2 σ ρ ∧ Ext F (unlookF F2 σ ρ) := by
  have hb : ∀ a, F a ≠ none → ¬ Bor σ ρ a := fun a h z => h (J.bor z).1
  have e : Ext F (unlookF F2 σ ρ) := fun a o q => by
    have nb := hb a (by rw [q]; simp)
    rw [unlookF_no nb]
    exact J2.f0 a o (show lookF F H σ ρ a = some o by rw [lookF_no nb]; exact q)
  have keep : ∀ a o, H a = some o → H2 a = some o := fun a o q => J2.kp a o q fun i h => h
  refine ⟨⟨J.f0.trans e, fun a o q => ?_, fun a o q => ?_, fun a o q n => keep a o (J.kp a o q n), J.len, fun i sv es => ?_, J.ap, J.ios⟩, e⟩
  · by_cases h : Bor σ ρ a
    · rw [unlookF_yes h] at q; cases q
    · rw [unlookF_no h] at q; exact J2.fh a o q
  · by_cases h : Bor σ ρ a
    · rw [unlookF_yes h] at q; cases q
    · rw [unlookF_no h] at q
      rcases J2.fr a o q with ⟨o', z⟩ | z
      · have z' : lookF F H σ ρ a = some o' := z
        rw [lookF_no h] at z'
        exact J.fr a o' z'
      · exact .inr (J.new z)
  · have q := J.sl i sv es
    by_cases ho : sv.own = true
    · obtain ⟨p, e1, ⟨e2, e3⟩, e4⟩ := (slot_own ho).mp q
      refine (slot_own ho).mpr ⟨p, e1, ⟨?_, e3⟩, SV.at_mono e (fun o w => keep p o w) e4⟩
      by_cases h : Bor σ ρ p
      · exact unlookF_yes h
      · rw [unlookF_no h]
        cases z : F2 p with
        | none => rfl
        | some o =>
          obtain ⟨o', ho', _⟩ := SV.at_some e4
          rcases J2.fr p o z with ⟨o2, y⟩ | y
          · have y' : lookF F H σ ρ p = some o2 := y
            rw [lookF_no h, e2] at y'; cases y'
          · have y' : H p = none := y
            rw [ho'] at y'; cases y'
    · cases sv with
      | un => trivial
      | d x => obtain ⟨v, e1, r⟩ := q; exact ⟨v, e1, r.mono e⟩
      | ex _ _ _ _ _ => exact ⟨q.1, q.2.mono e⟩
      | _ => exact absurd rfl ho
theorem I.unlookT {F2 H2 : Hp} {ρ2 : List SV} (J : I C F H σ ρ) (J2 : I (lookC C F H σ ρ) F2 H2 σ ρ2) : ∀ a vs, F2 a = some (.tup vs) → unlookF F2 σ ρ a = some (.tup vs) := fun a vs e => by
  by_cases h : Bor σ ρ a
  · obtain ⟨i, s, es, hs, ea⟩ := h
    obtain ⟨p, e1, _, e4⟩ := J.slo es (SV.own_seen hs)
    rw [ea] at e1; cases e1
    obtain ⟨o, ho, mu⟩ := SV.at_some e4
    have h1 : H2 a = some o := J2.kp a o ho fun i h => h
    rw [J2.fh a _ e] at h1
    cases h1
    exact mu.elim
  · rw [unlookF_no h]; exact e
end
def dLook (de : DEv) : DEv := fun ρ Φ _ => de (lookAll ρ) (fun d _ => d.flatT = true ∧ Φ d ρ) X0
def dLookT (dt : DTv) : DTv := fun ρ Φ _ => dt (lookAll ρ) (fun b _ => Φ b ρ) X0
section
variable {X : Cx} {W : WX} {K : PySem.W.Frag}
theorem wokX {C : Cc} {F : Hp} {σ : L2.St} : WOk W C F σ X0 := fun _ _ _ _ _ _ _ _ _ _ h => h.elim
theorem sim_look {te : TE} {de : DEv} (h : SimE K W te de) : SimE K W te (dLook de) := by
  intro C F H σ ρ Φ Ξ Q hK J q k w
  refine h (lookC C F H σ ρ) _ H σ (lookAll ρ) _ X0 _ hK J.look q (fun v d ρ1 F1 H1 J1 e1 r1 q1 => ?_) wokX
  obtain ⟨J3, e3⟩ := J.unlook J1
  exact k v d ρ _ H1 J3 e3 (rep_flat (J.unlookT J1) r1 q1.1) q1.2
theorem sim_lookT {tt : TT} {dt : DTv} (h : SimT K W tt dt) : SimT K W tt (dLookT dt) := by
  intro C F H σ ρ Φ Ξ Q hK J q k w
  refine h (lookC C F H σ ρ) _ H σ (lookAll ρ) _ X0 _ hK J.look q (fun b ρ1 F1 H1 J1 e1 q1 => ?_) wokX
  obtain ⟨J3, e3⟩ := J.unlook J1
  exact k b ρ _ H1 J3 e3 q1
theorem DE.look {e : Expr} {te : TE} {de : DEv} (h : DE X W e te de) : DE X W e te (dLook de) := ⟨h.pe, sim_look h.sim⟩
theorem DT.look {e : Expr} {tt : TT} {dt : DTv} (h : DT X W e tt dt) : DT X W e tt (dLookT dt) := ⟨h.pt, sim_lookT h.sim⟩
end

/-! ### the end of a law -/
/-- what a law's own def must keep: any ints in, True out -/
def lawS : DSpec := fun svs ret exc => ∃ ns : List Int, ns.length ≤ 63 ∧ svs = [.d (.fl (ns.map D.int))] ∧ ret (.bl true) [.un]
theorem lawS_len (svs : List SV) (ret : D → List SV → Prop) (exc : XQ) (h : lawS svs ret exc) : svs.length = 1 := by
  obtain ⟨ns, _, rfl, _⟩ := h; rfl
theorem law_sp {K : PySem.W.Frag} (H : Hp) (a : Addr) (ns : List Int) (hl : ns.length ≤ 63) (hS : SqL K H a (ns.map V.int)) : spOf K lawS [.ref a] H (fun v _ => v = .bl true) fun _ _ _ => False := by
  refine ⟨⟨K, H, H, fun _ _ => False, fun _ _ _ h => h.elim⟩, [.d (.fl (ns.map D.int))], fun d _ => d = .bl true, fun _ _ _ => False, rfl, rfl, ?_, ⟨ns, hl, rfl, rfl⟩, fun d svs' e v F' H' J r => ?_, fun _ _ _ h => h.elim⟩
  · refine ⟨.refl H, .refl H, fun a o e => .inl ⟨o, e⟩, fun a o e _ => e, rfl, fun i sv e => ?_, fun i j b sv sv' e1 e2 o1 => ?_, fun i a h => h.elim⟩
    · cases i with
      | zero =>
        simp at e; subst e
        exact ⟨.ref a, rfl, .fl hS (RepL.ofInts ns)⟩
      | succ i => simp at e
    · cases i with
      | zero => simp at e1; subst e1; cases o1
      | succ i => simp at e1
  · subst e
    cases r
    rfl
end DL
namespace DLR
open PySem PySem.Spec PyProof.Rows L2
/-! ### tuples walked by what is built in -/
section
variable {prog : Program} {w : World} {A : Around} {E : Value → Shared → Prop} {s : Shared} {l : Addr} {its : List Value} {ns : List Int} {Q : Value → Shared → Prop}
theorem iterT {items : Array Value} {Q : Value → Shared → Prop} (hl : s.heap.IsTuple l items)
    (h : ∀ s₂ : Shared, s₂ = { s with heap := s.heap.push { cls := .type "tuple_iterator", data := .fields #[.ref l, .int 0 0] } } →
      (s₂.heap.IsTupleIter s.heap.objs.size l 0 ∧ s₂.heap.IsTuple l items) → (∀ b ∈ [s.heap.objs.size, l], b < s₂.heap.objs.size) → l ≠ s.heap.objs.size → Q (.ref s.heap.objs.size) s₂) :
    wpAny (model prog w) A (pyIter (.ref l)) Q E s := by
  have hlt : l < s.heap.objs.size := by obtain ⟨_, e, _⟩ := hl; exact Heap.lt_size e
  refine wpAny_pyIter_tuple hl (h _ rfl ⟨⟨_, Heap.get?_push_size _ rfl, rfl, rfl⟩, hl.push _⟩ (fun b hb => ?_) (Nat.ne_of_lt hlt))
  show b < (s.heap.push _).objs.size
  rw [Heap.size_push]
  rcases List.mem_cons.mp hb with rfl | hb
  · exact Nat.lt_succ_self _
  · rcases List.mem_cons.mp hb with rfl | hb
    · exact Nat.lt_succ_of_lt hlt
    · cases hb
theorem oldT {h' : Heap} (hk : ∀ b o, b ∉ [s.heap.objs.size] → (s.heap.push { cls := .type "tuple_iterator", data := .fields #[.ref l, .int 0 0] }).get? b = some o → h'.get? b = some o) :
    ∀ b o, s.heap.get? b = some o → h'.get? b = some o := fun b o e => by
  refine hk b o (fun hm => ?_) (Heap.get?_push_of_some _ e)
  rcases List.mem_cons.mp hm with e1 | hm
  · exact absurd (e1 ▸ Heap.lt_size e) (Nat.lt_irrefl _)
  · cases hm
theorem sumT (hh : A.handled = none) (hl : s.heap.IsTuple l its.toArray) (hi : IntsAre its ns)
    (h : ∀ h' tk t', (∀ b o, s.heap.get? b = some o → h'.get? b = some o) → Q (.int ns.sum t') { s with heap := h', toks := tk }) : wpAny (model prog w) A (call (.builtin "sum") [.ref l]) Q E s := by
  obtain ⟨xs, e⟩ := hi.allInts.items
  have hn : numsOf (intItems xs).toList = ns := by rw [← e]; exact hi.numsOf
  rw [nums_intItems] at hn
  rw [e] at hl
  refine call_sum_walkG (iterT hl fun s₂ e st hfp hlI => ?_)
  subst e
  refine ⟨_, _, _, _, _, _, numAt xs, rfl, PySem.Walks.tuple (A := A.in1) hh _ l hlI (intItems xs), st, hfp, (fun _ _ => intItems_at), fun h' tk t' hk => ?_⟩
  have := h h' tk t' (oldT hk)
  have e2 : (intItems xs).size = xs.size := by simp [intItems]
  rw [e2, preSum_eq, List.take_of_length_le (by simp), hn]; exact this
theorem maxT (hh : A.handled = none) (hl : s.heap.IsTuple l its.toArray) (hi : IntsAre its ns) (hne : 0 < ns.length)
    (h : ∀ h' tk M t', (∀ b o, s.heap.get? b = some o → h'.get? b = some o) → M ∈ ns → (∀ a, a ∈ ns → a ≤ M) → Q (.int M t') { s with heap := h', toks := tk }) : wpAny (model prog w) A (call (.builtin "max") [.ref l]) Q E s := by
  obtain ⟨xs, e⟩ := hi.allInts.items
  have hn : numsOf (intItems xs).toList = ns := by rw [← e]; exact hi.numsOf
  rw [nums_intItems] at hn
  subst hn
  rw [e] at hl
  have hsz : 0 < xs.size := by simpa using hne
  refine call_max_walk (iterT hl fun s₂ e st hfp hlI => ?_)
  subst e
  refine ⟨_, _, _, _, _, _, _, rfl, PySem.Walks.tuple (A := A.in1) hh _ l hlI (intItems xs), st, hfp, by simpa [intItems] using hsz, CmpOf.ints_gt (numAt xs) (fun _ _ => intItems_at), fun v h' tk hP hk => ?_⟩
  have e2 : (intItems xs).size = xs.size := by simp [intItems]
  rw [e2] at hP
  obtain ⟨t, rfl⟩ := intItems_at hP
  obtain ⟨h1, h2⟩ := argBest_gt (numAt xs) (xs.size - 1)
  refine h h' tk _ t (oldT hk) ?_ fun a ha => ?_
  · rw [numAt_eq]; exact PySem.getD_mem (by rw [List.length_map, Array.length_toList]; omega)
  · obtain ⟨j, hj, rfl⟩ := mem_getD ha
    rw [List.length_map, Array.length_toList] at hj
    rw [← numAt_eq]; exact h2 j (by omega)
theorem minT (hh : A.handled = none) (hl : s.heap.IsTuple l its.toArray) (hi : IntsAre its ns) (hne : 0 < ns.length)
    (h : ∀ h' tk M t', (∀ b o, s.heap.get? b = some o → h'.get? b = some o) → M ∈ ns → (∀ a, a ∈ ns → M ≤ a) → Q (.int M t') { s with heap := h', toks := tk }) : wpAny (model prog w) A (call (.builtin "min") [.ref l]) Q E s := by
  obtain ⟨xs, e⟩ := hi.allInts.items
  have hn : numsOf (intItems xs).toList = ns := by rw [← e]; exact hi.numsOf
  rw [nums_intItems] at hn
  subst hn
  rw [e] at hl
  have hsz : 0 < xs.size := by simpa using hne
  refine call_min_walk (iterT hl fun s₂ e st hfp hlI => ?_)
  subst e
  refine ⟨_, _, _, _, _, _, _, rfl, PySem.Walks.tuple (A := A.in1) hh _ l hlI (intItems xs), st, hfp, by simpa [intItems] using hsz, CmpOf.ints_lt (numAt xs) (fun _ _ => intItems_at), fun v h' tk hP hk => ?_⟩
  have e2 : (intItems xs).size = xs.size := by simp [intItems]
  rw [e2] at hP
  obtain ⟨t, rfl⟩ := intItems_at hP
  obtain ⟨h1, h2⟩ := argBest_lt (numAt xs) (xs.size - 1)
  refine h h' tk _ t (oldT hk) ?_ fun a ha => ?_
  · rw [numAt_eq]; exact PySem.getD_mem (by rw [List.length_map, Array.length_toList]; omega)
  · obtain ⟨j, hj, rfl⟩ := mem_getD ha
    rw [List.length_map, Array.length_toList] at hj
    rw [← numAt_eq]; exact h2 j (by omega)
end
section
variable {X : Cx}
def rSumT (K : PySem.W.Frag) : List V → Hp → VK → Prop := fun vs H Q => ∃ (a : Addr) (ns : List Int), vs = [V.ref a] ∧ SqT K H a (ns.map V.int) ∧ Q (.int ns.sum) H
def rMaxT (K : PySem.W.Frag) : List V → Hp → VK → Prop := fun vs H Q => ∃ (a : Addr) (ns : List Int), vs = [V.ref a] ∧ SqT K H a (ns.map V.int) ∧ 0 < ns.length ∧ ∀ m, m ∈ ns → (∀ y, y ∈ ns → y ≤ m) → Q (.int m) H
def rMinT (K : PySem.W.Frag) : List V → Hp → VK → Prop := fun vs H Q => ∃ (a : Addr) (ns : List Int), vs = [V.ref a] ∧ SqT K H a (ns.map V.int) ∧ 0 < ns.length ∧ ∀ m, m ∈ ns → (∀ y, y ∈ ns → m ≤ y) → Q (.int m) H
def rAnyT (K : PySem.W.Frag) : List V → Hp → VK → Prop := fun vs H Q => ∃ (a : Addr) (bs : List Bool), vs = [V.ref a] ∧ SqT K H a (bs.map V.bl) ∧ Q (.bl (bs.any id)) H
def rAllT (K : PySem.W.Frag) : List V → Hp → VK → Prop := fun vs H Q => ∃ (a : Addr) (bs : List Bool), vs = [V.ref a] ∧ SqT K H a (bs.map V.bl) ∧ Q (.bl (bs.all id)) H
theorem cr_sumT (hc : X.calm = true) : CallR X (.builtin "sum") (rSumT X.K) := by
  intro pins s σ H vs us Q I r h
  obtain ⟨a, ns, rfl, hs, q⟩ := h
  obtain ⟨its, rv, hl, _⟩ := I.tuple hs
  rw [Vals.ref1 r]
  exact sumT (I.ok.hd hc) hl rv.ints fun h' tk t' hk => ⟨.int _, H, I.kept hk, ⟨_, rfl⟩, q⟩
theorem cr_maxT (hc : X.calm = true) : CallR X (.builtin "max") (rMaxT X.K) := by
  intro pins s σ H vs us Q I r h
  obtain ⟨a, ns, rfl, hs, hne, q⟩ := h
  obtain ⟨its, rv, hl, _⟩ := I.tuple hs
  rw [Vals.ref1 r]
  exact maxT (I.ok.hd hc) hl rv.ints hne fun h' tk m t' hk h1 h2 => ⟨.int _, H, I.kept hk, ⟨_, rfl⟩, q m h1 h2⟩
theorem cr_minT (hc : X.calm = true) : CallR X (.builtin "min") (rMinT X.K) := by
  intro pins s σ H vs us Q I r h
  obtain ⟨a, ns, rfl, hs, hne, q⟩ := h
  obtain ⟨its, rv, hl, _⟩ := I.tuple hs
  rw [Vals.ref1 r]
  exact minT (I.ok.hd hc) hl rv.ints hne fun h' tk m t' hk h1 h2 => ⟨.int _, H, I.kept hk, ⟨_, rfl⟩, q m h1 h2⟩
theorem cr_anyT (hc : X.calm = true) : CallR X (.builtin "any") (rAnyT X.K) := by
  intro pins s σ H vs us Q I r h
  obtain ⟨a, bs, rfl, hs, q⟩ := h
  obtain ⟨its, rv, hl, _⟩ := I.tuple hs
  rw [Vals.ref1 r]
  have hb := rv.bls
  refine call_any_walk (iterT (show s.heap.IsTuple a its.toArray from hl) fun s₂ e2 st _ hne => ?_)
  subst e2
  refine ⟨_, _, _, _, _, _, _, rfl, PySem.Walks.tuple (A := X.A.in1) (I.ok.hd hc) _ a hne its.toArray, st, truth_bools hb, fun h' tk hk => ?_⟩
  refine ⟨.bl _, H, I.kept fun b o eo => hk b o (fun hmem => ?_) (Heap.get?_push_of_some _ eo), ?_, q⟩
  · rcases List.mem_cons.mp hmem with e1 | hmem
    · exact absurd (e1 ▸ Heap.lt_size eo) (Nat.lt_irrefl _)
    · cases hmem
  · show Value.bool _ = Value.bool _
    rw [← L2.any_range, hb, List.size_toArray, List.length_map]
theorem cr_allT (hc : X.calm = true) : CallR X (.builtin "all") (rAllT X.K) := by
  intro pins s σ H vs us Q I r h
  obtain ⟨a, bs, rfl, hs, q⟩ := h
  obtain ⟨its, rv, hl, _⟩ := I.tuple hs
  rw [Vals.ref1 r]
  have hb := rv.bls
  refine call_all_walk (iterT (show s.heap.IsTuple a its.toArray from hl) fun s₂ e2 st _ hne => ?_)
  subst e2
  refine ⟨_, _, _, _, _, _, _, rfl, PySem.Walks.tuple (A := X.A.in1) (I.ok.hd hc) _ a hne its.toArray, st, truth_bools hb, fun h' tk hk => ?_⟩
  refine ⟨.bl _, H, I.kept fun b o eo => hk b o (fun hmem => ?_) (Heap.get?_push_of_some _ eo), ?_, q⟩
  · rcases List.mem_cons.mp hmem with e1 | hmem
    · exact absurd (e1 ▸ Heap.lt_size eo) (Nat.lt_irrefl _)
    · cases hmem
  · show Value.bool _ = Value.bool _
    rw [← L2.all_range, hb, List.size_toArray, List.length_map]
end
/-! ### a list or a tuple walked, whichever has come -/
section
variable {X : Cx} {tg : Expr}
def iSeq (K : PySem.W.Frag) (tl : TE) : TI := fun σ H R => tl σ H fun x H1 => ∃ a, x = .ref a ∧ (((∃ xs, SqL K H1 a xs) ∧ R (Itl K a) H1) ∨ ((∃ xs, SqT K H1 a xs) ∧ R (Itt K a) H1))
theorem pi_seq {l : Expr} {tl : TE} (hl : PE X l tl) : PI X tg l (iSeq X.K tl) := by
  refine ⟨fun pins s σ H R I h => ?_⟩
  refine thn (hl.run pins s σ H _ I h) fun v s1 ⟨x, H1, I1, r1, q1⟩ => ?_
  obtain ⟨a, e, q⟩ := q1
  subst e
  cases r1
  rcases q with ⟨⟨xs, hq⟩, q⟩ | ⟨⟨xs, hq⟩, q⟩
  · obtain ⟨its, rv, p, hz⟩ := I1.list hq
    refine wpAny_pyIter_list p.isList ?_
    refine ⟨s1.heap.objs.size, [s1.heap.objs.size], _, _, H1, rfl, I1.kept (t' := s1.toks) fun b o e => Heap.get?_push_of_some _ e, turn_list a _, ⟨_, Heap.get?_push_size _ rfl, rfl, rfl⟩, fun b hb => ?_, q⟩
    have e : b = s1.heap.objs.size := by simpa using hb
    subst e
    exact I1.fpOk (Nat.le_refl _) (I1.hok.fresh (Nat.le_refl _))
  · obtain ⟨its, rv, p, hz⟩ := I1.tuple hq
    refine wpAny_pyIter_tuple (show s1.heap.IsTuple a its.toArray from p) ?_
    refine ⟨s1.heap.objs.size, [s1.heap.objs.size], _, _, H1, rfl, I1.kept (t' := s1.toks) fun b o e => Heap.get?_push_of_some _ e, turn_tuple a _, ⟨_, Heap.get?_push_size _ rfl, rfl, rfl⟩, fun b hb => ?_, q⟩
    have e : b = s1.heap.objs.size := by simpa using hb
    subst e
    exact I1.fpOk (Nat.le_refl _) (I1.hok.fresh (Nat.le_refl _))
end
/-! ### enumerate of a tuple -/
section
open PySem
theorem meets_enumT (l : Addr) (items : Array Value) (n : Nat) (dct : Option Addr) (sl : Array (Option Value)) :
    Meets (Builtin.«enumerate.__new__» ⟨[.type "enumerate", .ref l], []⟩) (fun _ R s => s.heap.get? l = some { cls := .type "tuple", dict := dct, data := .seq items n, slots := sl } ∧
      R (.ok (.ret (.ref (s.heap.push { cls := .type "tuple_iterator", data := .fields #[.ref l, .int 0 0] }).objs.size)))
        { s with heap := (s.heap.push { cls := .type "tuple_iterator", data := .fields #[.ref l, .int 0 0] }).push { cls := .type "enumerate", data := .fields #[.none, .bool false, .ref s.heap.objs.size, rawInt 0, .none, .none] } }) :=
  .of_wp fun prog w A R s h => by
    obtain ⟨hp, g, d, tk, os⟩ := s; obtain ⟨hl, h⟩ := h
    have hsub := sub_enumerate
    have hL : Heap.IsTuple (Shared.heap ⟨hp, g, d, tk, os⟩) l items := ⟨_, hl, rfl, n, rfl⟩
    wp_walk using AutoSeq1.wpAny_loadPart' hl
    refine wpAny_stack_any fun st => wpAny_pure ?_
    split
    · rename_i c _ _ _ _ _
      cases (c == Value.type "enumerate")
      · wp_walk using AutoSeq1.wpAny_loadPart' hl, wpAny_pyIter_tuple hL
        exact ⟨_, rfl, h⟩
      · wp_walk using AutoSeq1.wpAny_loadPart' hl, wpAny_pyIter_tuple hL
        exact ⟨_, rfl, h⟩
    · wp_walk using AutoSeq1.wpAny_loadPart' hl, wpAny_pyIter_tuple hL
      exact ⟨_, rfl, h⟩
end
section
open PySem
variable {prog : Program} {w : World} {A : Around} {E : Value → Shared → Prop} {s : Shared}
theorem call_enumT {l : Addr} {items : Array Value} {Q : Value → Shared → Prop} (hL : s.heap.IsTuple l items)
    (h : ∀ h', IsEnum h' (s.heap.objs.size + 1) s.heap.objs.size 0 .none → h'.IsTupleIter s.heap.objs.size l 0 → h'.objs.size = s.heap.objs.size + 2 →
      (∀ b o, s.heap.get? b = some o → h'.get? b = some o) → Q (.ref (s.heap.objs.size + 1)) { s with heap := h' }) :
    wpAny (model prog w) A (call (.type "enumerate") [.ref l]) Q E s := by
  obtain ⟨⟨c, dct, dt, sl⟩, hl, hc, n, hd⟩ := hL
  replace hc : c = .type "tuple" := hc
  replace hd : dt = .seq items n := hd
  subst hc hd
  refine callType_new F.called_enumerate (by decide) (F.typeCall_enumerate_1 _) (F.newCall_enumerate_1 _) (fun obj => F.args_object_init_2 obj _) F.entry_enumerate_new
    (meets_enumT l items n dct sl) ⟨hl, ?_⟩
  have hz : (s.heap.push { cls := .type "tuple_iterator", data := .fields #[.ref l, .int 0 0] }).objs.size = s.heap.objs.size + 1 := Heap.size_push ..
  show _ ∧ _
  rw [hz]
  have he : IsEnum ((s.heap.push { cls := .type "tuple_iterator", data := .fields #[.ref l, .int 0 0] }).push
      { cls := .type "enumerate", data := .fields #[.none, .bool false, .ref s.heap.objs.size, rawInt 0, .none, .none] }) (s.heap.objs.size + 1) s.heap.objs.size 0 .none := by
    have := Heap.get?_push_size (s.heap.push { cls := .type "tuple_iterator", data := .fields #[.ref l, .int 0 0] })
      (o := { cls := .type "enumerate", data := .fields #[.none, .bool false, .ref s.heap.objs.size, rawInt 0, .none, .none] }) rfl
    rw [hz] at this; exact this
  refine ⟨⟨_, he, rfl⟩, h _ he ⟨_, Heap.get?_push_of_some _ (Heap.get?_push_size _ rfl), rfl, rfl⟩ (by rw [Heap.size_push, hz]) fun b o x => Heap.get?_push_of_some _ (Heap.get?_push_of_some _ x)⟩
end
def IteT (K : PySem.W.Frag) (a : Addr) : It :=
  ⟨fun i H => ∃ (xs : List V) (x : V), SqT K H a xs ∧ xs[i]? = some x, fun i H v H' => ∃ T x, v = .ref T ∧ H T = none ∧ H' = upd H T (.tup [.int (i : Nat), x]) ∧ ∀ xs, SqT K H a xs → xs[i]? = some x, fun i H => ∃ xs : List V, SqT K H a xs ∧ xs.length ≤ i⟩
theorem turn_enumT {P : Program} {w : World} {K : PySem.W.Frag} {elts : List Expr} {kk : Nat} {tpos : Pos} (a e it : Addr) (hae : a ≠ e) (hai : a ≠ it) :
    Turn P w K (.Tuple elts kk tpos) (IteT K a) [e, it] e (fun i h => (∃ old, IsEnum h e it ((i : Nat) : Int) old) ∧ h.IsTupleIter it a i ∧ e ≠ it) where
  mem := by simp
  obj := fun i h st b hb => by
    obtain ⟨⟨old, he⟩, ⟨o, ho, hc, hd⟩, _⟩ := st
    have e' : b = e ∨ b = it := by simpa using hb
    rcases e' with z | z
    · rw [z]; exact ⟨_, he, fun v q => nomatch q⟩
    · rw [z]; exact ⟨o, ho, fun v q => by rw [hd] at q; cases q⟩
  keep := fun i h h' st k => let ⟨⟨old, he⟩, hi, hne⟩ := st; ⟨⟨old, k e (by simp) _ he⟩, hi.at fun o q => k it (by simp) o q, hne⟩
  item := by
    intro X hP hw hK hc i pins s σ H E I hf st hg
    subst hP hw hK
    obtain ⟨⟨old, he⟩, hit, hne⟩ := st
    obtain ⟨xs, x, hq, hx⟩ := hg
    obtain ⟨its, rv, p, hz⟩ := I.tuple hq
    obtain ⟨u, hu, ru⟩ := rv.get hx
    have hel : e < s.heap.objs.size := Heap.lt_size he
    have hil : it < s.heap.objs.size := by obtain ⟨_, q, _⟩ := hit; exact Heap.lt_size q
    have p' : s.heap.IsTuple a its.toArray := p
    have hil2 : i < its.toArray.size := by
      have := (List.getElem?_eq_some_iff.mp hu).1
      simpa using this
    refine wpAny_pyNext_enum_itemD (Draws.tuple (A := X.A.in1) (I.ok.hd hc) it a hai its.toArray) he ⟨hit, p'⟩ hil2 hne (by simp [hne, Ne.symm hae]) fun x' h' tk hP ho hst' hT hsz hk => ?_
    have ex : x' = u := by
      have : its[i]? = some x' := by simpa using hP
      rw [hu] at this; exact (Option.some.inj this).symm
    subst ex
    obtain ⟨hit', _⟩ := hst'
    refine ⟨_, rfl, wpAny_letOwnedTupleGo_enum (s := { s with heap := h', toks := tk + 1 }) ho fun h'' he' sb => ?_⟩
    have hT2 : h''.get? s.heap.objs.size = some { cls := .type "tuple", data := .seq #[.int i tk, x'] } := (sb.2 _ (Nat.ne_of_gt hel)).trans hT
    have new : ObjOk X.prog X.w (upd H s.heap.objs.size (.tup [.int (i : Nat), x])) h'' s.heap.objs.size (.tup [.int (i : Nat), x]) :=
      ⟨by show 2 ≤ sizeLine; decide, [.int i tk, x'], .cons ⟨_, rfl⟩ (.cons ru .nil), ⟨_, hT2, rfl, _, rfl⟩⟩
    have I1 : Inv X pins σ (upd H s.heap.objs.size (.tup [.int (i : Nat), x])) { s with heap := h'', toks := tk + 1 } :=
      I.turnedNew (ch := [e, it]) (fun b ob hb q => (sb.2 b (fun z => hb (by simp [z]))).trans (hk b ob (fun z => hb (by simp [z])) (fun z => hb (by simp [z])) q)) hf (Nat.le_refl _) new
    refine ⟨.ref s.heap.objs.size, _, I1, rfl, ⟨_, x, rfl, I.hok.fresh (Nat.le_refl _), rfl, fun ys hy => by rw [I.tuple_inj hy hq]; exact hx⟩, ⟨⟨x', ?_⟩, hit'.at fun o q => (sb.2 it (Ne.symm hne)).trans q, hne⟩, fun b hb => ?_⟩
    · have e1 : ((i + 1 : Nat) : Int) = (i : Int) + 1 := by omega
      rw [e1]; exact he'
    · have hb' : b < s.heap.objs.size := by
        have e' : b = e ∨ b = it := by simpa using hb
        rcases e' with z | z
        · rw [z]; exact hel
        · rw [z]; exact hil
      rw [upd_ne (Nat.ne_of_lt hb')]
      exact (hf b hb).1
  done := by
    intro X hP hw hK hc i pins s σ H E I hf st hg
    subst hP hw hK
    obtain ⟨⟨old, he⟩, hit, hne⟩ := st
    obtain ⟨xs, hq, hx⟩ := hg
    obtain ⟨its, rv, p, hz⟩ := I.tuple hq
    obtain ⟨f0, f1, f2, f3, f4, f5⟩ := hf it (by simp)
    have hl := rv.length
    have p' : s.heap.IsTuple a its.toArray := p
    have hT : s.TypeIs (.ref e) "enumerate" := ⟨_, he, rfl⟩
    unfold pyNext
    refine wpAny_bind (wpAny_attempt (wpAny_callSpecial?_slot (name := Str.ofString "__next__") hT F.slot_enumerate_next
      (wpAny_call_entry F.slot_enumerate_next hT F.entry_enumerate_next ?_ (F.args_enumerate_next_1 _))))
    show wpAny _ _ (field (.ref e) 2 >>= _) _ _ _
    refine wpAny_bind (wpAny_field he rfl (x := .ref it) rfl ?_)
    refine wpAny_bind (wpAny_nextOf_tuple_end (I.ok.hd hc) hit p' (by simp; omega) fun h' x he' hx' => ?_)
    obtain ⟨o, ho, hcc⟩ := hx'
    refine wpAny_bind (wpAny_isInstance (T := "StopIteration") (b := true) ⟨o, ho, hcc⟩ isSubtype_stop ?_)
    exact wpAny_pure ⟨rfl, I.turned (t' := s.toks) (fun b o hb q => he' b o hb q) f0 f1 f3 f4 f5⟩
  self := fun A i s Q E st h => let ⟨⟨_, he⟩, _⟩ := st; wpAny_pyIter_enum he h
def iEnumA (K : PySem.W.Frag) (ta : TA) : TI := fun σ H R => ta σ H fun vs H1 => ∃ a xs, vs = [.ref a] ∧ ((SqL K H1 a xs ∧ R (Ite K a) H1) ∨ (SqT K H1 a xs ∧ R (IteT K a) H1))
theorem pi_enumA {X : Cx} {e : Expr} {ta : TA} {p pos tpos : Pos} {elts : List Expr} {kk : Nat} (hg : Gl X "enumerate") (hm : X.mg "enumerate" = none) (ha : PA X [e] ta) (hs : starEach [e] X.env = [(false, eval e X.env)] := by rfl) :
    PI X (.Tuple elts kk tpos) (.Call (.Name "enumerate" p) [e] [] pos) (iEnumA X.K ta) := by
  refine ⟨fun pins s σ H R I h => ?_⟩
  refine Call_ (ld_blt I hg hm boot_enumerate (PyProof.Rows.callWith_type1 (thn (ha.run pos pins s σ H _ I h) fun us s1 ⟨vs, H1, I1, r1, q1⟩ => ?_) hs rfl))
  obtain ⟨a, xs, ex, q⟩ := q1
  subst ex
  cases r1 with
  | cons r rr =>
    cases rr
    cases r
    rcases q with ⟨hq, q⟩ | ⟨hq, q⟩
    · obtain ⟨its, rv, p', hz⟩ := I1.list hq
      refine call_enumerate_list p'.isList fun h' he hit hsz hk => wpAny_pyIter_enum he ?_
      have I2 : Inv X pins σ H1 { s1 with heap := h' } := I1.kept (t' := s1.toks) hk
      refine ⟨s1.heap.objs.size + 1, [s1.heap.objs.size + 1, s1.heap.objs.size], _, _, H1, rfl, I2, turn_enum a (s1.heap.objs.size + 1) s1.heap.objs.size, ⟨⟨.none, he⟩, hit, Nat.succ_ne_self _⟩, fun b hb => ?_, q⟩
      have e' : b = s1.heap.objs.size + 1 ∨ b = s1.heap.objs.size := by simpa using hb
      have hle : s1.heap.objs.size ≤ b := by
        rcases e' with z | z
        · rw [z]; exact Nat.le_add_right _ _
        · rw [z]; exact Nat.le_refl _
      exact I1.fpOk hle (I1.hok.fresh hle)
    · obtain ⟨its, rv, p', hz⟩ := I1.tuple hq
      have pp : s1.heap.IsTuple a its.toArray := p'
      have hal : a < s1.heap.objs.size := by obtain ⟨_, e, _⟩ := id pp; exact Heap.lt_size e
      refine call_enumT pp fun h' he hit hsz hk => wpAny_pyIter_enum he ?_
      have I2 : Inv X pins σ H1 { s1 with heap := h' } := I1.kept (t' := s1.toks) hk
      refine ⟨s1.heap.objs.size + 1, [s1.heap.objs.size + 1, s1.heap.objs.size], _, _, H1, rfl, I2, turn_enumT a (s1.heap.objs.size + 1) s1.heap.objs.size (Nat.ne_of_lt (Nat.lt_succ_of_lt hal)) (Nat.ne_of_lt hal), ⟨⟨.none, he⟩, hit, Nat.succ_ne_self _⟩, fun b hb => ?_, q⟩
      have e' : b = s1.heap.objs.size + 1 ∨ b = s1.heap.objs.size := by simpa using hb
      have hle : s1.heap.objs.size ≤ b := by
        rcases e' with z | z
        · rw [z]; exact Nat.le_add_right _ _
        · rw [z]; exact Nat.le_refl _
      exact I1.fpOk hle (I1.hok.fresh hle)
end DLR
namespace DL
open PySem PySem.Spec PyProof.Rows L2 DLU DLR
section
variable {X : Cx} {W : WX} {K : PySem.W.Frag}
/-! ### whichever has come: lists, tuples -/
def dIter (de : DEv) : DIv := fun ρ Φ Ξ => de ρ (fun x ρ1 => match x with
  | .tup ds => Φ ds ρ1
  | .lst ds => Φ ds ρ1
  | .fl ds => Φ ds ρ1
  | _ => False) Ξ
theorem di_seq {tg e : Expr} {te : TE} {de : DEv} (h : DE X W e te de) : DI X W tg e (iSeq X.K te) (dIter de) := by
  refine ⟨pi_seq h.pe, fun C F H σ ρ Φ Ξ R hK J q k w => ?_⟩
  refine h.sim C F H σ ρ _ Ξ _ hK J q (fun v d ρ1 F1 H1 J1 e1 r1 q1 => ?_) w
  cases r1 with
  | @tup a vs ds hl rl => exact ⟨a, rfl, .inr ⟨⟨vs, hl.sqt J1.fh⟩, k _ _ ρ1 F1 H1 J1 e1 (walks_tup hl rl) q1⟩⟩
  | @lst a vs ds hl rl => exact ⟨a, rfl, .inl ⟨⟨vs, SqL.of (J1.fh _ _ hl)⟩, k _ _ ρ1 F1 H1 J1 e1 (walks_list (SqL.of hl) rl) q1⟩⟩
  | @fl a vs ds hl rl => exact ⟨a, rfl, .inl ⟨⟨vs, ext_l J1.fh hl⟩, k _ _ ρ1 F1 H1 J1 e1 (walks_list hl rl) q1⟩⟩
  | _ => exact q1.elim
/-- an own list walked (its body leaves it as it is) -/
def numbered (ds : List D) : List D := ds.mapIdx fun i d => .tup [.int (i : Nat), d]
theorem numbered_get {ds : List D} {i : Nat} {d : D} (h : ds[i]? = some d) : (numbered ds)[i]? = some (.tup [.int (i : Nat), d]) := by
  unfold numbered; rw [List.getElem?_mapIdx, h]; rfl
theorem numbered_len (ds : List D) : (numbered ds).length = ds.length := by unfold numbered; rw [List.length_mapIdx]
theorem walks_enumL {a : Addr} {vs : List V} {ds : List D} {F : Hp} (h : SqL K F a vs) (r : RepL K F vs ds) : Walks K F (Ite K a) (numbered ds) := by
  refine ⟨fun H => SqL K H a vs, YPair (fun i => some (.int (i : Nat))) (fun i => vs[i]?), ?_, fun H2 e => ext_l e h, fun i Hc x Hn F2 e e2 y => ?_⟩
  · rw [numbered_len, ← r.length]; exact walk_enum
  · obtain ⟨T, x1, x2, rfl, hT, rfl, q1, q2⟩ := y
    cases q1
    obtain ⟨d, ed, rd⟩ := r.getV q2
    have g := Grow.new (o := .tup [.int (i : Nat), x2]) e2 hT
    exact ⟨_, _, numbered_get ed, g, .tup (.inl upd_same) (.cons (.int _) (.cons ((rd.mono e).mono g.ff) .nil))⟩
theorem walk_enumT {a : Addr} {xs : List V} : Walk (IteT K a) xs.length (fun H => SqT K H a xs) (YPair (fun i => some (.int (i : Nat))) (fun i => xs[i]?)) := by
  refine ⟨fun i _ hi q => ⟨xs, xs[i], q, by simp [hi]⟩, fun _ q => ⟨xs, q, Nat.le_refl _⟩, fun i H v H' _ q y => ?_⟩
  obtain ⟨T, x, h1, h2, h3, h4⟩ := y
  exact ⟨T, _, x, h1, h2, h3, rfl, h4 xs q⟩
theorem walks_enumT {a : Addr} {vs : List V} {ds : List D} {F : Hp} (h : TupAt K F a vs) (r : RepL K F vs ds) : Walks K F (IteT K a) (numbered ds) := by
  refine ⟨fun H => SqT K H a vs, YPair (fun i => some (.int (i : Nat))) (fun i => vs[i]?), ?_, fun H2 e => h.sqt e, fun i Hc x Hn F2 e e2 y => ?_⟩
  · rw [numbered_len, ← r.length]; exact walk_enumT
  · obtain ⟨T, x1, x2, rfl, hT, rfl, q1, q2⟩ := y
    cases q1
    obtain ⟨d, ed, rd⟩ := r.getV q2
    have g := Grow.new (o := .tup [.int (i : Nat), x2]) e2 hT
    exact ⟨_, _, numbered_get ed, g, .tup (.inl upd_same) (.cons (.int _) (.cons ((rd.mono e).mono g.ff) .nil))⟩
def dEnum (da : DAv) : DIv := fun ρ Φ Ξ => dArgs da (fun ds ρ1 => match ds with
  | [.tup xs] => Φ (numbered xs) ρ1
  | [.lst xs] => Φ (numbered xs) ρ1
  | [.fl xs] => Φ (numbered xs) ρ1
  | _ => False) ρ Ξ
theorem di_enum {e : Expr} {elts : List Expr} {kk : Nat} {tpos p pos : Pos} {ta : TA} {da : DAv} (hm : X.mg "enumerate" = none) (ha : DA X W [e] ta da) (hg : Gl X "enumerate" := by rfl) (hs : starEach [e] X.env = [(false, eval e X.env)] := by rfl) :
    DI X W (.Tuple elts kk tpos) (.Call (.Name "enumerate" p) [e] [] pos) (iEnumA X.K ta) (dEnum da) := by
  refine ⟨pi_enumA hg hm ha.pa hs, fun C F H σ ρ Φ Ξ R hK J q k w => ?_⟩
  refine sim_args ha.sim hK J q (fun vs ds ρ1 F1 H1 J1 e1 rl q1 => ?_) w
  split at q1
  · rename_i xs
    cases rl with
    | cons r0 r1 => cases r1; cases r0 with
      | @tup a vs _ hx rx => exact ⟨a, vs, rfl, .inr ⟨hx.sqt J1.fh, k _ _ ρ1 F1 H1 J1 e1 (walks_enumT hx rx) q1⟩⟩
  · rename_i xs
    cases rl with
    | cons r0 r1 => cases r1; cases r0 with
      | @lst a vs _ hx rx => exact ⟨a, vs, rfl, .inl ⟨SqL.of (J1.fh _ _ hx), k _ _ ρ1 F1 H1 J1 e1 (walks_enumL (SqL.of hx) rx) q1⟩⟩
  · rename_i xs
    cases rl with
    | cons r0 r1 => cases r1; cases r0 with
      | @fl a vs _ hx rx => exact ⟨a, vs, rfl, .inl ⟨ext_l J1.fh hx, k _ _ ρ1 F1 H1 J1 e1 (walks_enumL hx rx) q1⟩⟩
  · exact q1.elim
/-! zip -/
def paired : List D → List D → List D
  | x :: xs, y :: ys => .tup [x, y] :: paired xs ys
  | _, _ => []
theorem paired_len : ∀ xs ys : List D, (paired xs ys).length = min xs.length ys.length
  | [], _ => by simp [paired]
  | _ :: _, [] => by simp [paired]
  | x :: xs, y :: ys => by simp [paired, paired_len xs ys]
theorem paired_get : ∀ {xs ys : List D} {i : Nat} {x y : D}, xs[i]? = some x → ys[i]? = some y → (paired xs ys)[i]? = some (.tup [x, y])
  | [], _, _, _, _, h, _ => by simp at h
  | _ :: _, [], _, _, _, _, h => by simp at h
  | a :: xs, b :: ys, 0, x, y, h1, h2 => by simp at h1 h2; subst h1 h2; rfl
  | a :: xs, b :: ys, i + 1, x, y, h1, h2 => by
    have := paired_get (xs := xs) (ys := ys) (i := i) (by simpa using h1) (by simpa using h2)
    simpa [paired] using this
def seqOf : D → Option (Bool × List D)
  | .tup xs => some (true, xs)
  | .lst xs => some (false, xs)
  | .fl xs => some (false, xs)
  | _ => none
theorem seqOf_list {F H : Hp} {v : V} {d : D} {xs : List D} (e : Ext F H) (r : Rep K F v d) (h : seqOf d = some (false, xs)) : ∃ a ws, v = .ref a ∧ SqL K F a ws ∧ RepL K F ws xs := by
  cases r with
  | @lst a vs ds hx rl => cases h; exact ⟨a, vs, rfl, SqL.of hx, rl⟩
  | @fl a vs ds hx rl => cases h; exact ⟨a, vs, rfl, hx, rl⟩
  | _ => cases h
theorem seqOf_tup {F H : Hp} {v : V} {d : D} {xs : List D} (e : Ext F H) (r : Rep K F v d) (h : seqOf d = some (true, xs)) : ∃ a ws, v = .ref a ∧ TupAt K F a ws ∧ RepL K F ws xs := by
  cases r with
  | @tup a vs ds hx rl => cases h; exact ⟨a, vs, rfl, hx, rl⟩
  | _ => cases h
theorem walk_zipT {a b : Addr} {xs ys : List V} : Walk (RZ.ItzT K a b) (min xs.length ys.length) (fun H => SqT K H a xs ∧ SqT K H b ys) (YPair (fun i => xs[i]?) (fun i => ys[i]?)) := by
  refine ⟨fun i _ hi q => ⟨xs, ys, xs[i]'(by omega), ys[i]'(by omega), q.1, q.2, by simp [show i < xs.length by omega], by simp [show i < ys.length by omega]⟩, fun _ q => ⟨xs, ys, q.1, q.2, by omega⟩, fun i H v H' _ q y => ?_⟩
  obtain ⟨T, x, y, h1, h2, h3, h4, h5⟩ := y
  exact ⟨T, x, y, h1, h2, h3, h4 xs q.1, h5 ys q.2⟩
theorem walks_zipL {a b : Addr} {vs ws : List V} {ds es : List D} {F : Hp} (h : SqL K F a vs) (r : RepL K F vs ds) (h' : SqL K F b ws) (r' : RepL K F ws es) : Walks K F (Itz K a b) (paired ds es) := by
  refine ⟨fun H => SqL K H a vs ∧ SqL K H b ws, YPair (fun i => vs[i]?) (fun i => ws[i]?), ?_, fun H2 e => ⟨ext_l e h, ext_l e h'⟩, fun i Hc x Hn F2 e e2 y => ?_⟩
  · exact walk_zip (by rw [paired_len, r.length, r'.length])
  · obtain ⟨T, x1, x2, rfl, hT, rfl, q1, q2⟩ := y
    obtain ⟨d1, ed1, rd1⟩ := r.getV q1
    obtain ⟨d2, ed2, rd2⟩ := r'.getV q2
    have g := Grow.new (o := .tup [x1, x2]) e2 hT
    exact ⟨_, _, paired_get ed1 ed2, g, .tup (.inl upd_same) (.cons ((rd1.mono e).mono g.ff) (.cons ((rd2.mono e).mono g.ff) .nil))⟩
theorem walks_zipT {a b : Addr} {vs ws : List V} {ds es : List D} {F : Hp} (h : TupAt K F a vs) (r : RepL K F vs ds) (h' : TupAt K F b ws) (r' : RepL K F ws es) : Walks K F (RZ.ItzT K a b) (paired ds es) := by
  refine ⟨fun H => SqT K H a vs ∧ SqT K H b ws, YPair (fun i => vs[i]?) (fun i => ws[i]?), ?_, fun H2 e => ⟨h.sqt e, h'.sqt e⟩, fun i Hc x Hn F2 e e2 y => ?_⟩
  · rw [paired_len, ← r.length, ← r'.length]; exact walk_zipT
  · obtain ⟨T, x1, x2, rfl, hT, rfl, q1, q2⟩ := y
    obtain ⟨d1, ed1, rd1⟩ := r.getV q1
    obtain ⟨d2, ed2, rd2⟩ := r'.getV q2
    have g := Grow.new (o := .tup [x1, x2]) e2 hT
    exact ⟨_, _, paired_get ed1 ed2, g, .tup (.inl upd_same) (.cons ((rd1.mono e).mono g.ff) (.cons ((rd2.mono e).mono g.ff) .nil))⟩
def dZip (da : DAv) : DIv := fun ρ Φ Ξ => dArgs da (fun ds ρ1 => match ds with
  | [x, y] => (match seqOf x, seqOf y with
    | some (b, xs), some (c, ys) => b = c ∧ Φ (paired xs ys) ρ1
    | _, _ => False)
  | _ => False) ρ Ξ
theorem di_zip {e e2 : Expr} {elts : List Expr} {kk : Nat} {tpos p pos : Pos} {ta : TA} {da : DAv} (hm : X.mg "zip" = none) (ha : DA X W [e, e2] ta da) (hg : Gl X "zip" := by rfl)
    (hs : starEach [e, e2] X.env = (false, eval e X.env) :: starEach [e2] X.env := by rfl) (hpl : (backTo pos (starEach [e2] X.env)).any (·.1) = false := by rfl) :
    DI X W (.Tuple elts kk tpos) (.Call (.Name "zip" p) [e, e2] [] pos) (RZ.iZipA X.K ta) (dZip da) := by
  refine ⟨RZ.pi_zipA hg hm ha.pa hs hpl, fun C F H σ ρ Φ Ξ R hK J q k w => ?_⟩
  refine sim_args ha.sim hK J q (fun vs ds ρ1 F1 H1 J1 e1 rl q1 => ?_) w
  split at q1
  · rename_i x y
    cases rl with
    | cons r0 r1 => cases r1 with
      | cons r1 r2 =>
        cases r2
        split at q1
        · rename_i b xs c ys hx hy
          obtain ⟨rfl, q1⟩ := q1
          cases b with
          | false =>
            obtain ⟨a1, w1, rfl, s1, t1⟩ := seqOf_list (J1.fh) r0 hx
            obtain ⟨a2, w2, rfl, s2, t2⟩ := seqOf_list (J1.fh) r1 hy
            exact ⟨a1, a2, w1, w2, rfl, .inl ⟨ext_l J1.fh s1, ext_l J1.fh s2, k _ _ ρ1 F1 H1 J1 e1 (walks_zipL s1 t1 s2 t2) q1⟩⟩
          | true =>
            obtain ⟨a1, w1, rfl, s1, t1⟩ := seqOf_tup (J1.fh) r0 hx
            obtain ⟨a2, w2, rfl, s2, t2⟩ := seqOf_tup (J1.fh) r1 hy
            exact ⟨a1, a2, w1, w2, rfl, .inr ⟨s1.sqt J1.fh, s2.sqt J1.fh, k _ _ ρ1 F1 H1 J1 e1 (walks_zipT s1 t1 s2 t2) q1⟩⟩
        · exact q1.elim
  · exact q1.elim
/-! range(i, j, c) -/
def intsBy (lo c : Int) (n : Nat) : List D := (List.range n).map fun (i : Nat) => D.int (lo + (i : Int) * c)
theorem walks_rangeC {lo c : Int} {n : Nat} {F : Hp} : Walks K F (Itc lo c n) (intsBy lo c n) := by
  have hl : (intsBy lo c n).length = n := by unfold intsBy; rw [List.length_map, List.length_range]
  refine ⟨fun _ => True, fun i H x H' => i < n ∧ H' = H ∧ x = .int (lo + (i : Nat) * c), ?_, fun _ _ => trivial, fun i Hc x Hn F2 e e2 y => ?_⟩
  · rw [hl]
    exact ⟨fun i H hi _ => hi, fun H _ => Nat.le_refl n, fun i H x H' hi _ y => ⟨hi, y⟩⟩
  · obtain ⟨hi, rfl, rfl⟩ := y
    exact ⟨F2, .int (lo + (i : Nat) * c), by unfold intsBy; rw [List.getElem?_map, List.getElem?_range hi]; rfl, .refl e2, .int _⟩
/-- downwards -/
def dRng3 (da : DAv) : DIv := fun ρ Φ Ξ => dArgs da (fun ds ρ1 => match ds with
  | [.int i, .int j, .int c] => (-(2 ^ 62) ≤ i ∧ i < 2 ^ 62 ∧ -(2 ^ 62) ≤ j ∧ j < 2 ^ 62) ∧ c = -1 ∧ Φ (intsBy i (-1) (i - j).toNat) ρ1
  | _ => False) ρ Ξ
theorem di_range3 {tg a b c : Expr} {ta : TA} {da : DAv} {p pos : Pos} (hm : X.mg "range" = none) (ha : DA X W [a, b, c] ta da) (hg : Gl X "range" := by rfl) (hs : starEach [a, b, c] X.env = (false, eval a X.env) :: starEach [b, c] X.env := by rfl) (hpl : (backTo pos (starEach [b, c] X.env)).any (·.1) = false := by rfl) :
    DI X W tg (.Call (.Name "range" p) [a, b, c] [] pos) (iRng3 ta) (dRng3 da) := by
  refine ⟨pi_range3 hg hm ha.pa hs hpl, fun C F H σ ρ Φ Ξ R hK J q k w => ?_⟩
  refine sim_args ha.sim hK J q (fun vs ds ρ1 F1 H1 J1 e1 rl q1 => ?_) w
  split at q1
  · rename_i i j c
    obtain ⟨⟨a1, a2, a3, a4⟩, rfl, q1⟩ := q1
    cases rl with
    | cons r0 r1 => cases r0; cases r1 with
      | cons r0 r1 => cases r0; cases r1 with
        | cons r0 r1 =>
          cases r0; cases r1
          exact ⟨i, j, -1, _, rfl, .neg a1 a2 a3 a4, k _ _ ρ1 F1 H1 J1 e1 walks_rangeC q1⟩
  · exact q1.elim
/-! sum, max, min, any, all -/
def dOnA (g : List D → (D → Prop) → Prop) : List D → (D → Prop) → Prop := fun ds Φ => match ds with
  | [d] => (match seqOf d with
    | some (_, xs) => g xs Φ
    | none => False)
  | _ => False
theorem onA {F H : Hp} {vs : List V} {ds : List D} {g : List D → (D → Prop) → Prop} {Φ : D → Prop} (e : Ext F H) (rl : RepL K F vs ds) (h : dOnA g ds Φ) : ∃ a ws xs, vs = [.ref a] ∧ (SqL K H a ws ∨ SqT K H a ws) ∧ RepL K F ws xs ∧ g xs Φ := by
  unfold dOnA at h
  split at h
  · rename_i d
    cases rl with
    | cons r0 r1 =>
      cases r1
      cases q : seqOf d with
      | none => rw [q] at h; exact h.elim
      | some p =>
        obtain ⟨b, xs⟩ := p
        rw [q] at h
        cases b with
        | false =>
          obtain ⟨a, ws, rfl, h1, h2⟩ := seqOf_list e r0 q
          exact ⟨a, ws, xs, rfl, .inl (ext_l e h1), h2, h⟩
        | true =>
          obtain ⟨a, ws, rfl, h1, h2⟩ := seqOf_tup e r0 q
          exact ⟨a, ws, xs, rfl, .inr (h1.sqt e), h2, h⟩
  · exact h.elim
def dSumA : List D → (D → Prop) → Prop := dOnA fun xs Φ => match D.intsL xs with
  | some ns => Φ (.int ns.sum)
  | none => False
def dMaxA : List D → (D → Prop) → Prop := dOnA fun xs Φ => match D.intsL xs with
  | some ns => 0 < ns.length ∧ ∀ m, m ∈ ns → (∀ y, y ∈ ns → y ≤ m) → Φ (.int m)
  | none => False
def dMinA : List D → (D → Prop) → Prop := dOnA fun xs Φ => match D.intsL xs with
  | some ns => 0 < ns.length ∧ ∀ m, m ∈ ns → (∀ y, y ∈ ns → m ≤ y) → Φ (.int m)
  | none => False
def dAllA : List D → (D → Prop) → Prop := dOnA fun xs Φ => match D.blsL xs with
  | some bs => Φ (.bl (bs.all id))
  | none => False
def dAnyA : List D → (D → Prop) → Prop := dOnA fun xs Φ => match D.blsL xs with
  | some bs => Φ (.bl (bs.any id))
  | none => False
theorem sim_sumA : SimC K (fun xs H Q => rSum K xs H Q ∨ rSumT K xs H Q) dSumA := by
  intro F H vs ds Φ Q e rl h k
  obtain ⟨a, ws, xs, rfl, h1, h2, h3⟩ := onA e rl h
  cases q : D.intsL xs with
  | none => rw [q] at h3; exact h3.elim
  | some ns =>
    rw [q] at h3
    rw [intsL_of q] at h2
    rw [h2.ints] at h1
    rcases h1 with h1 | h1
    · exact .inl ⟨a, ns, rfl, h1, k _ _ F H (.refl e) (.int _) h3⟩
    · exact .inr ⟨a, ns, rfl, h1, k _ _ F H (.refl e) (.int _) h3⟩
theorem sim_maxA : SimC K (fun xs H Q => rMax K xs H Q ∨ rMaxT K xs H Q) dMaxA := by
  intro F H vs ds Φ Q e rl h k
  obtain ⟨a, ws, xs, rfl, h1, h2, h3⟩ := onA e rl h
  cases q : D.intsL xs with
  | none => rw [q] at h3; exact h3.elim
  | some ns =>
    rw [q] at h3
    rw [intsL_of q] at h2
    rw [h2.ints] at h1
    rcases h1 with h1 | h1
    · exact .inl ⟨a, ns, rfl, h1, h3.1, fun m m1 m2 => k _ _ F H (.refl e) (.int _) (h3.2 m m1 m2)⟩
    · exact .inr ⟨a, ns, rfl, h1, h3.1, fun m m1 m2 => k _ _ F H (.refl e) (.int _) (h3.2 m m1 m2)⟩
theorem sim_minA : SimC K (fun xs H Q => rMin K xs H Q ∨ rMinT K xs H Q) dMinA := by
  intro F H vs ds Φ Q e rl h k
  obtain ⟨a, ws, xs, rfl, h1, h2, h3⟩ := onA e rl h
  cases q : D.intsL xs with
  | none => rw [q] at h3; exact h3.elim
  | some ns =>
    rw [q] at h3
    rw [intsL_of q] at h2
    rw [h2.ints] at h1
    rcases h1 with h1 | h1
    · exact .inl ⟨a, ns, rfl, h1, h3.1, fun m m1 m2 => k _ _ F H (.refl e) (.int _) (h3.2 m m1 m2)⟩
    · exact .inr ⟨a, ns, rfl, h1, h3.1, fun m m1 m2 => k _ _ F H (.refl e) (.int _) (h3.2 m m1 m2)⟩
theorem sim_allA : SimC K (fun xs H Q => rAll K xs H Q ∨ rAllT K xs H Q) dAllA := by
  intro F H vs ds Φ Q e rl h k
  obtain ⟨a, ws, xs, rfl, h1, h2, h3⟩ := onA e rl h
  cases q : D.blsL xs with
  | none => rw [q] at h3; exact h3.elim
  | some bs =>
    rw [q] at h3
    rw [blsL_of q] at h2
    rw [h2.bls] at h1
    rcases h1 with h1 | h1
    · exact .inl ⟨a, bs, rfl, h1, k _ _ F H (.refl e) (.bl _) h3⟩
    · exact .inr ⟨a, bs, rfl, h1, k _ _ F H (.refl e) (.bl _) h3⟩
theorem sim_anyA : SimC K (fun xs H Q => rAny K xs H Q ∨ rAnyT K xs H Q) dAnyA := by
  intro F H vs ds Φ Q e rl h k
  obtain ⟨a, ws, xs, rfl, h1, h2, h3⟩ := onA e rl h
  cases q : D.blsL xs with
  | none => rw [q] at h3; exact h3.elim
  | some bs =>
    rw [q] at h3
    rw [blsL_of q] at h2
    rw [h2.bls] at h1
    rcases h1 with h1 | h1
    · exact .inl ⟨a, bs, rfl, h1, k _ _ F H (.refl e) (.bl _) h3⟩
    · exact .inr ⟨a, bs, rfl, h1, k _ _ F H (.refl e) (.bl _) h3⟩
/-! a slice, whichever has come -/
def dSl (de : DEv) (dl dh : DPv) : DEv := fun ρ Φ Ξ => de ρ (fun x ρ1 => dl ρ1 (fun lo ρ2 => dh ρ2 (fun hi ρ3 => match x with
  | .tup xs => Φ (.tup (cutD xs lo hi)) ρ3
  | .lst xs => Φ (.lst (cutD xs lo hi)) ρ3
  | .fl xs => Φ (.lst (cutD xs lo hi)) ρ3
  | _ => False) Ξ) Ξ) Ξ
theorem de_sl {e : Expr} {lo hi : Option Expr} {te : TE} {tl th : TO} {de : DEv} {dl dh : DPv} {pos p2 : Pos} (he : DE X W e te de) (hl : DP X W lo tl dl) (hh : DP X W hi th dh) : DE X W (.Subscript e (.Slice lo hi none p2) pos) (tSl (fun x lo hi H Q => rSlA X.K x lo hi H Q ∨ rSlL X.K x lo hi H Q) te tl th) (dSl de dl dh) := by
  refine ⟨pe_slice (SlR.or sl_tupA sl_list) he.pe hl.po hh.po, fun C F H σ ρ Φ Ξ Q hK J q k w => ?_⟩
  refine he.sim C F H σ ρ _ Ξ _ hK J q (fun v d ρ1 F1 H1 J1 e1 r1 q1 => ?_) w
  refine hl.sim C F1 H1 σ ρ1 _ Ξ _ hK J1 q1 (fun o ρ2 F2 H2 J2 e2 q2 => ?_) (w.ext e1)
  refine hh.sim C F2 H2 σ ρ2 _ Ξ _ hK J2 q2 (fun o' ρ3 F3 H3 J3 e3 q3 => ?_) (w.ext (e1.trans e2))
  have r3 := r1.mono (e2.trans e3)
  have ee := e1.trans (e2.trans e3)
  cases r3 with
  | @tup p vs ds hx rl =>
    refine .inl ⟨p, vs, rfl, hx.sqt J3.fh, fun z => ?_, fun z r nr => ?_⟩
    · rw [rl.length] at z
      exact k _ _ ρ3 F3 H3 J3 ee (.tup hx rl) (by have q4 : Φ (.tup (cutD ds o o')) ρ3 := q3; rwa [cut_whole z] at q4)
    · have g := Grow.new (o := .tup (cutV vs o o')) J3.fh nr
      exact k _ _ ρ3 _ _ (J3.grow g) (ee.trans g.ff) (.tup (.inl upd_same) ((cut_rep rl o o').mono g.ff)) q3
  | @lst p vs ds hx rl =>
    refine .inr ⟨p, vs, rfl, SqL.of (J3.fh _ _ hx), fun r nr => ?_⟩
    have g := Grow.new (o := .lst (cutV vs o o')) J3.fh nr
    exact k _ _ ρ3 _ _ (J3.grow g) (ee.trans g.ff) (.lst upd_same ((cut_rep rl o o').mono g.ff)) q3
  | @fl p vs ds hx rl =>
    refine .inr ⟨p, vs, rfl, ext_l J3.fh hx, fun r nr => ?_⟩
    have g := Grow.new (o := .lst (cutV vs o o')) J3.fh nr
    exact k _ _ ρ3 _ _ (J3.grow g) (ee.trans g.ff) (.lst upd_same ((cut_rep rl o o').mono g.ff)) q3
  | _ => exact q3.elim
/-! an own list's item -/
def dIxO (i : Nat) (dk : DEv) : DEv := fun ρ Φ Ξ => match ρ[i]? with
  | some (.ol _ _) => dk ρ (fun j ρ1 => match ρ1[i]?, j with
    | some (.ol _ xs), .int k => (match atI xs k with
      | some d => Φ d ρ1
      | none => False)
    | _, _ => False) Ξ
  | _ => False
theorem de_ixO (i : Nat) {x : Str} {b : Expr} {tb : TE} {dk : DEv} {p pos : Pos} (hx : PE X (.Name x p) (tVar i)) (hb : DE X W b tb dk) (hs : PlainIx b := by exact fun _ _ => rfl) : DE X W (.Subscript (.Name x p) b pos) (tOp (rIx X.K) (tVar i) tb) (dIxO i dk) := by
  refine ⟨pe_ix ix_seq hx hb.pe hs, fun C F H σ ρ Φ Ξ Q hK J q k w => ?_⟩
  unfold dIxO at q
  split at q
  · rename_i io0 xs0 e0
    obtain ⟨p0, ep, eg, nf, _⟩ := J.ref e0 rfl
    refine ⟨_, ep, hb.sim C F H σ ρ _ Ξ _ hK J q (fun v j ρ1 F1 H1 J1 e1 r1 q1 => ?_) w⟩
    split at q1
    · rename_i io xs kk e2
      cases r1
      split at q1
      · rename_i d q2
        obtain ⟨p1, ep1, eg1, _, vs, hp, rl⟩ := J1.ref e2 rfl
        rw [ep] at ep1
        cases ep1
        rw [hK] at rl
        obtain ⟨v, ev, rv⟩ := atI_rep rl q2
        exact .inl ⟨p0, vs, kk, v, rfl, rfl, SqL.of hp, ev, k v d ρ1 F1 H1 J1 e1 rv q1⟩
      · exact q1.elim
    · exact q1.elim
  · exact q.elim
end

/-! ### the reading of a def -/
/-- d is handed out -/
def Ret (n : Nat) (ret : D → List SV → Prop) (d : D) (ρ' : List SV) : Prop := ∃ o, o.length = n ∧ Weaks (outs n ρ') o ∧ ret d o
def RetO (n : Nat) (ret : List D → List SV → Prop) (d : List D) (ρ' : List SV) : Prop := ∃ o, o.length = n ∧ Weaks (outs n ρ') o ∧ ret d o
def RetX (n : Nat) (exc : XQ) : XQ := fun nm d ρ' => ∃ o, o.length = n ∧ Weaks (outs n ρ') o ∧ exc nm d o
theorem Ret.of {n : Nat} {ret : D → List SV → Prop} {d : D} {ρ' : List SV} (o : List SV) (h : ret d o) (hl : o.length = n) (w : Weaks (outs n ρ') o) : Ret n ret d ρ' := ⟨o, hl, w, h⟩
theorem Ret.same {n : Nat} {ret : D → List SV → Prop} {d : D} {ρ' : List SV} (h : ret d (outs n ρ')) (hl : (outs n ρ').length = n) : Ret n ret d ρ' := ⟨_, hl, .refl _, h⟩
def Reads (n : Nat) (N : List Str) (S : DSpec) (ds : DSv) : Prop := ∀ svs ret exc, S svs ret exc → svs.length = n ∧
  ds { nx := fun ρ' => Ret n ret .non ρ', rt := fun d ρ' => Ret n ret d ρ', ex := RetX n exc } (start0 N.length svs)
def ReadsO (n : Nat) (N : List Str) (S : DSpecO) (ds : DSv) : Prop := ∀ svs ret exc, S svs ret exc → svs.length = n ∧
  ds { nx := fun _ => False, rt := fun _ _ => False, ex := RetX n exc, ro := fun xs ρ' => RetO n ret xs ρ' } (start0 N.length svs)
section
variable {P : Program} {w : World} {K : PySem.W.Frag} {mg : Str → Option Value} {base : Heap}
theorem fnR {x qual : Str} {params : Arguments} {body : List Stmt} {scope : Scope} {dvs : List V} {kws : List (Str × V)} {f : Addr} {fd : FuncData} {N ps : List Str} {k : Nat} {hot : Bool} {S : DSpec} {ds : DSv} (F : FunD K x qual params body scope dvs kws f fd) (Sc : FnScope N ps scope)
    (hbody : ∀ (cdv : Value) (A : Around) (outer : List Env) (s : Shared) (H : Hp) (E : XK) (m : Option (Addr × Obj)), BodyOk (cxU P w K mg base N qual scope f cdv A outer s H E m) (WD E) k hot →
      ∃ ts, DSs (cxU P w K mg base N qual scope f cdv A outer s H E m) (WD E) body ts ds)
    (hread : Reads ps.length N S ds) : FnU P w K mg base hot (k + 1) f fd ps (spOf K S) :=
  fnD F Sc (fun svs ret exc h => (hread svs ret exc h).1) hbody fun svs ret exc h => (hread svs ret exc h).2
theorem fnRO {x qual : Str} {params : Arguments} {body : List Stmt} {scope : Scope} {dvs : List V} {kws : List (Str × V)} {f : Addr} {fd : FuncData} {N ps : List Str} {k : Nat} {hot : Bool} {S : DSpecO} {ds : DSv} (F : FunD K x qual params body scope dvs kws f fd) (Sc : FnScope N ps scope)
    (hbody : ∀ (cdv : Value) (A : Around) (outer : List Env) (s : Shared) (H : Hp) (E : XK) (m : Option (Addr × Obj)), BodyOk (cxU P w K mg base N qual scope f cdv A outer s H E m) (WD E) k hot →
      ∃ ts, DSs (cxU P w K mg base N qual scope f cdv A outer s H E m) (WD E) body ts ds)
    (hread : ReadsO ps.length N S ds) : FnU P w K mg base hot (k + 1) f fd ps (spOfO K S) :=
  fnDO F Sc (fun svs ret exc h => (hread svs ret exc h).1) hbody fun svs ret exc h => (hread svs ret exc h).2
end
end DL
namespace DL
open PySem PySem.Spec PyProof.Rows L2 DLR
section
variable {X : Cx} {W : WX} {K : PySem.W.Frag}
/-! ### what one's own list is asked to do -/
def SimM (K : PySem.W.Frag) (r : V → List V → Hp → VK → Prop) (g : List D → List D → (D → List D → Prop) → Prop) : Prop :=
  ∀ (F H : Hp) (p : Addr) (vs ws : List V) (xs args : List D) (Φ : D → List D → Prop) (Q : VK), Ext F H → F p = none → H p = some (.lst vs) → RepL K F vs xs → RepL K F ws args → g xs args Φ →
    (∀ v d vs' xs', Rep K F v d → RepL K F vs' xs' → Φ d xs' → Q v (upd H p (.lst vs'))) → r (.ref p) ws H Q
def dMet (i : Nat) (g : List D → List D → (D → List D → Prop) → Prop) (da : DAv) : DEv := fun ρ Φ Ξ => match ρ[i]? with
  | some (.ol _ _) => dArgs da (fun args ρ1 => match ρ1[i]? with
    | some (.ol io xs) => g xs args fun d xs' => Φ d (ρ1.set i (.ol io xs'))
    | _ => False) ρ Ξ
  | _ => False
theorem sim_met {i : Nat} {r : V → List V → Hp → VK → Prop} {g : List D → List D → (D → List D → Prop) → Prop} {ta : TA} {da : DAv} (hr : SimM K r g) (ha : SimA K W ta da) : SimE K W (tBM K "list" r (tVar i) ta) (dMet i g da) := by
  intro C F H σ ρ Φ Ξ Q hK J q k w
  unfold dMet at q
  split at q
  · rename_i io0 xs0 e0
    obtain ⟨p, e1, e2, _, vs0, h0, _⟩ := J.ref e0 rfl
    refine ⟨.ref p, e1, .inl ⟨rfl, vs0, SqL.of h0⟩, ?_⟩
    refine sim_args ha hK J q (fun ws args ρ1 F1 H1 J1 ee r1 q1 => ?_) w
    split at q1
    · rename_i io xs e3
      obtain ⟨p', e1', e2', nf, vs, h1, rl⟩ := J1.ref e3 rfl
      rw [e2] at e2'; cases e2'
      rw [hK] at rl
      refine hr F1 H1 p vs ws xs args _ Q J1.fh nf h1 rl r1 q1 fun v d vs' xs' rd rl' q2 => ?_
      exact k v d _ F1 _ (J1.write (sv0 := .ol io xs') e3 rfl e2 rfl ⟨vs', upd_same, by rw [hK]; exact rl'⟩) ee rd q2
    · exact q1.elim
  · exact q.elim
theorem sim_met0 {i : Nat} {r : V → List V → Hp → VK → Prop} {g : List D → List D → (D → List D → Prop) → Prop} (hr : SimM K r g) : SimE K W (tBM0 K "list" r (tVar i)) (dMet i g dNil) := by
  intro C F H σ ρ Φ Ξ Q hK J q k w
  unfold dMet at q
  split at q
  · rename_i io0 xs0 e0
    obtain ⟨p, e1, e2, nf, vs, h1, rl⟩ := J.ref e0 rfl
    refine ⟨.ref p, e1, .inl ⟨rfl, vs, SqL.of h1⟩, ?_⟩
    have q1 : (match ρ[i]? with
      | some (.ol io xs) => g xs [] fun d xs' => Φ d (ρ.set i (.ol io xs'))
      | _ => False) := q
    rw [e0] at q1
    rw [hK] at rl
    refine hr F H p vs [] xs0 [] _ Q J.fh nf h1 rl .nil q1 fun v d vs' xs' rd rl' q2 => ?_
    exact k v d _ F _ (J.write (sv0 := .ol io0 xs') e0 rfl e2 rfl ⟨vs', upd_same, by rw [hK]; exact rl'⟩) (.refl F) rd q2
  · exact q.elim
theorem de_met {i : Nat} {e : Expr} {es : List Expr} {r : V → List V → Hp → VK → Prop} {g : List D → List D → (D → List D → Prop) → Prop} {ta : TA} {da : DAv} (hr : SimM X.K r g) (h : PA X es ta → PE X e (tBM X.K "list" r (tVar i) ta)) (ha : DA X W es ta da) : DE X W e (tBM X.K "list" r (tVar i) ta) (dMet i g da) := ⟨h ha.pa, sim_met hr ha.sim⟩
theorem de_met0 {i : Nat} {e : Expr} {r : V → List V → Hp → VK → Prop} {g : List D → List D → (D → List D → Prop) → Prop} (hr : SimM X.K r g) (h : PE X e (tBM0 X.K "list" r (tVar i))) : DE X W e (tBM0 X.K "list" r (tVar i)) (dMet i g dNil) := ⟨h, sim_met0 hr⟩

def mApp (xs args : List D) (Φ : D → List D → Prop) : Prop := match args with
  | [x] => xs.length < 1000000 ∧ Φ .non (xs ++ [x])
  | _ => False
theorem sim_mApp : SimM K rAppend mApp := by
  intro F H p vs ws xs args Φ Q e nf hp rl ra h k
  unfold mApp at h
  split at h
  · rename_i x
    cases ra with
    | cons r0 r1 =>
      cases r1
      exact ⟨p, vs, _, rfl, rfl, hp, size_lt (by rw [rl.length]; exact h.1), k _ _ _ _ .non (rl.append (.one r0)) h.2⟩
  · exact h.elim
def mPop (xs args : List D) (Φ : D → List D → Prop) : Prop := match args, xs[xs.length - 1]? with
  | [], some x => Φ x xs.dropLast
  | _, _ => False
theorem RepL.dropLast {F : Hp} {vs : List V} {xs : List D} (r : RepL K F vs xs) : RepL K F vs.dropLast xs.dropLast := by
  rw [List.dropLast_eq_take, List.dropLast_eq_take, r.length]; exact r.take _
theorem RepL.eraseIdx {F : Hp} {vs : List V} {xs : List D} (r : RepL K F vs xs) (i : Nat) : RepL K F (vs.eraseIdx i) (xs.eraseIdx i) := by
  rw [List.eraseIdx_eq_take_drop_succ, List.eraseIdx_eq_take_drop_succ]; exact (r.take _).append (r.drop _)
theorem sim_mPop : SimM K rPop mPop := by
  intro F H p vs ws xs args Φ Q e nf hp rl ra h k
  unfold mPop at h
  split at h
  · rename_i x ex
    cases ra
    obtain ⟨v, ev, rv⟩ := rl.get ex
    exact ⟨p, vs, v, rfl, rfl, hp, by rw [rl.length]; exact ev, k _ _ _ _ rv rl.dropLast h⟩
  · exact h.elim
def mPopAt (xs args : List D) (Φ : D → List D → Prop) : Prop := match args with
  | [.int i] => 0 ≤ i ∧ i < 1000000 ∧ (match xs[i.toNat]? with
    | some x => Φ x (xs.eraseIdx i.toNat)
    | none => False)
  | _ => False
theorem sim_mPopAt : SimM K rPopAt mPopAt := by
  intro F H p vs ws xs args Φ Q e nf hp rl ra h k
  unfold mPopAt at h
  split at h
  · rename_i i
    obtain ⟨h0, h1, h⟩ := h
    split at h
    · rename_i x ex
      cases ra with
      | cons r0 r1 =>
        cases r1; cases r0
        obtain ⟨v, ev, rv⟩ := rl.get ex
        have hl := (List.getElem?_eq_some_iff.mp ev).1
        refine ⟨p, vs, i, i.toNat, v, rfl, rfl, hp, by omega, by omega, ?_, ev, k _ _ _ _ rv (rl.eraseIdx _) h⟩
        have := (ixN_seq (n := vs.length) (i := i) (j := i.toNat) (ixN_of h0 hl)).1
        exact this
    · exact h.elim
  · exact h.elim
def mIns (xs args : List D) (Φ : D → List D → Prop) : Prop := match args with
  | [.int i, x] => xs.length < 1000000 ∧ 0 ≤ i ∧ i < 1000000 ∧ Φ .non (xs.take i.toNat ++ [x] ++ xs.drop i.toNat)
  | _ => False
theorem sim_mIns : SimM K (fun x vs H Q => ∃ (l : Addr) (xs : List V) (i : Int) (y : V), x = .ref l ∧ vs = [.int i, y] ∧ H l = some (.lst xs) ∧ xs.length < sizeLine ∧ 0 ≤ i ∧ i < 2 ^ 63 ∧ Q .non (upd H l (.lst (xs.take i.toNat ++ [y] ++ xs.drop i.toNat)))) mIns := by
  intro F H p vs ws xs args Φ Q e nf hp rl ra h k
  unfold mIns at h
  split at h
  · rename_i i x
    cases ra with
    | cons r0 r1 => cases r0; cases r1 with
      | cons r0 r1 =>
        cases r1
        exact ⟨p, vs, i, _, rfl, rfl, hp, size_lt (by rw [rl.length]; exact h.1), h.2.1, by have := h.2.2.1; omega, k _ _ _ _ .non (((rl.take _).append (.one r0)).append (rl.drop _)) h.2.2.2⟩
  · exact h.elim
def mClear (xs args : List D) (Φ : D → List D → Prop) : Prop := match args with
  | [] => Φ .non []
  | _ => False
theorem sim_mClear : SimM K rClear mClear := by
  intro F H p vs ws xs args Φ Q e nf hp rl ra h k
  unfold mClear at h
  split at h
  · cases ra
    exact ⟨p, vs, rfl, rfl, hp, k _ _ _ _ .non .nil h⟩
  · exact h.elim
def mExt (xs args : List D) (Φ : D → List D → Prop) : Prop := match args with
  | [.lst ys] => xs.length + ys.length ≤ 1000000 ∧ Φ .non (xs ++ ys)
  | _ => False
theorem sim_mExt : SimM K rExtend mExt := by
  intro F H p vs ws xs args Φ Q e nf hp rl ra h k
  unfold mExt at h
  split at h
  · rename_i ys
    cases ra with
    | cons r0 r1 => cases r1; cases r0 with
      | @lst b zs _ hb rb =>
        exact ⟨p, b, vs, zs, rfl, rfl, hp, e _ _ hb, size_of (by rw [rl.length, rb.length]; exact h.1), k _ _ _ _ .non (rl.append rb) h.2⟩
  · exact h.elim
def mSortI (xs args : List D) (Φ : D → List D → Prop) : Prop := match args, D.intsL xs with
  | [], some ns => ∀ ns' : List Int, ns'.Perm ns → ns'.Pairwise (· ≤ ·) → Φ .non (ns'.map D.int)
  | _, _ => False
theorem sim_mSortI : SimM K rSortI mSortI := by
  intro F H p vs ws xs args Φ Q e nf hp rl ra h k
  unfold mSortI at h
  split at h
  · rename_i ns q
    cases ra
    rw [intsL_of q] at rl
    rw [rl.ints] at hp
    exact ⟨p, ns, rfl, rfl, hp, fun ns' h1 h2 => k _ _ _ _ .non (.ofInts ns') (h ns' h1 h2)⟩
  · exact h.elim
/-! lists joined: a new one of one's own -/
def dAddO (da db : DEv) : DOv := fun ρ Φ Ξ => da ρ (fun x ρ1 => db ρ1 (fun y ρ2 => match x, y with
  | .lst xs, .lst ys => xs.length + ys.length ≤ 1000000 ∧ Φ (xs ++ ys) ρ2
  | _, _ => False) Ξ) Ξ
theorem do_add {a b : Expr} {ta tb : TE} {da db : DEv} {pos : Pos} (ha : DE X W a ta da) (hb : DE X W b tb db) : DO X W (.BinOp a .Add b pos) (tOp rCat ta tb) (dAddO da db) := by
  refine ⟨pe_op op_cat ha.pe hb.pe, fun C F H σ ρ Φ Ξ Q hK J q k w => ?_⟩
  refine ha.sim C F H σ ρ _ Ξ _ hK J q (fun x a ρ1 F1 H1 J1 e1 r1 q1 => ?_) w
  refine hb.sim C F1 H1 σ ρ1 _ Ξ _ hK J1 q1 (fun y b ρ2 F2 H2 J2 e2 r2 q2 => ?_) (w.ext e1)
  split at q2
  · rename_i xs ys
    cases r1 with
    | @lst p vs _ hp rl =>
      cases r2 with
      | @lst p2 ws _ hp2 rl2 =>
        refine ⟨p, p2, vs, ws, rfl, rfl, J2.fh _ _ (e2 _ _ hp), J2.fh _ _ hp2, size_of (by rw [rl.length, rl2.length]; exact q2.1), fun r nr => ?_⟩
        have g := Grow.fresh (o := .lst (vs ++ ws)) J2.fh nr
        exact k r _ _ ρ2 _ _ (J2.grow g) (e1.trans e2) (J2.tmp nr) upd_same ((rl.mono e2).append rl2) q2.2
  · exact q2.elim
end
/-! ### the names that are built in -/
theorem bt_len : bootBuiltins "len" = some (.builtin "len") := by decide +kernel
theorem bt_isinstance : bootBuiltins "isinstance" = some (.builtin "isinstance") := by decide +kernel
theorem bt_max : bootBuiltins "max" = some (.builtin "max") := by decide +kernel
theorem bt_min : bootBuiltins "min" = some (.builtin "min") := by decide +kernel
theorem bt_sum : bootBuiltins "sum" = some (.builtin "sum") := by decide +kernel
theorem bt_any : bootBuiltins "any" = some (.builtin "any") := by decide +kernel
theorem bt_all : bootBuiltins "all" = some (.builtin "all") := by decide +kernel
theorem bt_abs : bootBuiltins "abs" = some (.builtin "abs") := by decide +kernel
theorem bt_repr : bootBuiltins "repr" = some (.builtin "repr") := by decide +kernel
theorem bt_sorted : bootBuiltins "sorted" = some (.builtin "sorted") := by decide +kernel
theorem bt_int : bootBuiltins "int" = some (.type "int") := by decide +kernel
theorem bt_bool : bootBuiltins "bool" = some (.type "bool") := by decide +kernel
theorem bt_str : bootBuiltins "str" = some (.type "str") := by decide +kernel
theorem bt_list : bootBuiltins "list" = some (.type "list") := by decide +kernel
theorem bt_tuple : bootBuiltins "tuple" = some (.type "tuple") := by decide +kernel
theorem bt_dict : bootBuiltins "dict" = some (.type "dict") := by decide +kernel
theorem bt_set : bootBuiltins "set" = some (.type "set") := by decide +kernel
end DL
namespace DL
open PySem PySem.Spec PyProof.Rows L2 DLR
section
variable {X : Cx} {W : WX} {K : PySem.W.Frag}
/-! ### a number in a range -/
theorem cr_range1 : CallR X (.type "range") (fun vs H Q => ∃ j, vs = [V.int j] ∧ ∀ p, H p = none → Q (.ref p) (upd H p (.rng 0 j))) := by
  intro pins s σ H vs us Q I r h
  obtain ⟨j, rfl, q⟩ := h
  obtain ⟨u1, rfl, rj⟩ : ∃ u, us = [u] ∧ RelV (.int j) u := by
    cases r with
    | cons p q => cases q; exact ⟨_, rfl, p⟩
  obtain ⟨t, rfl⟩ := rj
  refine call_range_1 ⟨.ref s.heap.objs.size, upd H s.heap.objs.size (.rng 0 j), ?_, rfl, q _ (I.hok.fresh (Nat.le_refl _))⟩
  exact I.laid (fun b o e => Heap.get?_push_of_some _ e) (Nat.le_refl _) ⟨_, _, _, Heap.get?_push_size _ rfl⟩
def rRngV : List V → Hp → VK → Prop := fun vs H Q => (∃ i j, vs = [V.int i, V.int j] ∧ ∀ p, H p = none → Q (.ref p) (upd H p (.rng i j))) ∨ (∃ j, vs = [V.int j] ∧ ∀ p, H p = none → Q (.ref p) (upd H p (.rng 0 j)))
theorem cr_rngV : CallR X (.type "range") rRngV := CallR.or cr_range2 cr_range1
theorem bt_range : bootBuiltins "range" = some (.type "range") := by decide +kernel
def dRgB : List D → Option (Int × Int)
  | [.int i, .int j] => some (i, j)
  | [.int j] => some (0, j)
  | _ => none
def dInRange (da : DEv) (db : DAv) : DEv := fun ρ Φ Ξ => da ρ (fun x ρ1 => dArgs db (fun ds ρ2 => match x, dRgB ds with
  | .int k, some (i, j) => Φ (.bl (decide (i ≤ k ∧ k < j))) ρ2
  | _, _ => False) ρ1 Ξ) Ξ
theorem sim_inRange {ta : TE} {tb : TA} {da : DEv} {db : DAv} (ha : SimE K W ta da) (hb : SimA K W tb db) :
    SimE K W (tOp (fun x y H Q => ∃ i a lo hi, x = V.int i ∧ y = V.ref a ∧ H a = some (.rng lo hi) ∧ Q (.bl (decide (lo ≤ i ∧ i < hi))) H) ta (tCB rRngV tb)) (dInRange da db) := by
  intro C F H σ ρ Φ Ξ Q hK J q k w
  refine ha C F H σ ρ _ Ξ _ hK J q (fun x a ρ1 F1 H1 J1 e1 r1 q1 => ?_) w
  refine sim_args hb hK J1 q1 (fun vs ds ρ2 F2 H2 J2 e2 rl q2 => ?_) (w.ext e1)
  split at q2
  · rename_i kk i j hd
    cases r1
    have fin : ∀ p, H2 p = none → ∃ (i' : Int) (a : Addr) (lo hi : Int), V.int kk = V.int i' ∧ V.ref p = V.ref a ∧ (upd H2 p (.rng i j)) a = some (.rng lo hi) ∧ Q (.bl (decide (lo ≤ i' ∧ i' < hi))) (upd H2 p (.rng i j)) := fun p np => by
      have g := Grow.fresh (o := .rng i j) J2.fh np
      exact ⟨kk, p, i, j, rfl, rfl, upd_same, k _ _ ρ2 _ _ (J2.grow g) (e1.trans e2) (.bl _) q2⟩
    unfold dRgB at hd
    split at hd
    · cases hd
      cases rl with
      | cons r0 r1 => cases r0; cases r1 with
        | cons r0 r1 => cases r0; cases r1; exact .inl ⟨_, _, rfl, fin⟩
    · cases hd
      cases rl with
      | cons r0 r1 => cases r0; cases r1; exact .inr ⟨_, rfl, fin⟩
    · cases hd
  · exact q2.elim
theorem de_inRange {a e : Expr} {es : List Expr} {ta : TE} {da : DEv} {tb : TA} {db : DAv} {p pos pos' : Pos} (hm : X.mg "range" = none) (ha : DE X W a ta da) (hb : DA X W (e :: es) tb db) (hg : Gl X "range" := by rfl) (he : starEach (e :: es) X.env = (false, eval e X.env) :: starEach es X.env := by rfl) (hpl : (backTo pos' (starEach es X.env)).any (·.1) = false := by rfl)
    (hk : behindInMarks .In (.Call (.Name "range" p) (e :: es) [] pos') = false := by rfl) : DE X W (.Compare a [.In] [.Call (.Name "range" p) (e :: es) [] pos'] pos) (tOp (fun x y H Q => ∃ i a lo hi, x = V.int i ∧ y = V.ref a ∧ H a = some (.rng lo hi) ∧ Q (.bl (decide (lo ≤ i ∧ i < hi))) H) ta (tCB rRngV tb)) (dInRange da db) :=
  ⟨pe_cmpR op_in_rng ha.pe (pe_callTy cr_rngV hg hm bt_range hb.pa (he := he) (hpl := hpl)) hk, sim_inRange ha.sim hb.sim⟩
theorem dt_inRange {a e : Expr} {es : List Expr} {ta : TE} {da : DEv} {tb : TA} {db : DAv} {p pos pos' : Pos} (hm : X.mg "range" = none) (ha : DE X W a ta da) (hb : DA X W (e :: es) tb db) (hg : Gl X "range" := by rfl) (he : starEach (e :: es) X.env = (false, eval e X.env) :: starEach es X.env := by rfl) (hpl : (backTo pos' (starEach es X.env)).any (·.1) = false := by rfl)
    (hk : behindInMarks .In (.Call (.Name "range" p) (e :: es) [] pos') = false := by rfl) : DT X W (.Compare a [.In] [.Call (.Name "range" p) (e :: es) [] pos'] pos) (tTest (tOp (fun x y H Q => ∃ i a lo hi, x = V.int i ∧ y = V.ref a ∧ H a = some (.rng lo hi) ∧ Q (.bl (decide (lo ≤ i ∧ i < hi))) H) ta (tCB rRngV tb))) (dTest (dInRange da db)) :=
  ⟨pt_cmpR op_in_rng ha.pe (pe_callTy cr_rngV hg hm bt_range hb.pa (he := he) (hpl := hpl)) hk, sim_test (sim_inRange ha.sim hb.sim)⟩
end
end DL
namespace DL
open PySem PySem.Spec PyProof.Rows L2 DLR
/-! ### the weakest reading by values of a reading by data: the same in whatever block -/
def canE (K : PySem.W.Frag) (W : WX) (de : DEv) : TE := fun σ H Q => ∃ (C : Cc) (F : Hp) (ρ : List SV) (Φ : D → List SV → Prop) (Ξ : XQ), C.K = K ∧ I C F H σ ρ ∧ de ρ Φ Ξ ∧
  (∀ v d ρ' F' H', I C F' H' σ ρ' → Ext F F' → Rep K F' v d → Φ d ρ' → Q v H') ∧ WOk W C F σ Ξ
theorem DE.can {X : Cx} {W : WX} {e : Expr} {te : TE} {de : DEv} (h : DE X W e te de) : DE X W e (canE X.K W de) de :=
  ⟨⟨fun pins s σ H Q J ⟨C, F, ρ, Φ, Ξ, hK, JJ, q, k, w⟩ => h.pe.run pins s σ H Q J (h.sim C F H σ ρ Φ Ξ Q hK JJ q k w)⟩, fun C F H σ ρ Φ Ξ Q hK J q k w => ⟨C, F, ρ, Φ, Ξ, hK, J, q, k, w⟩⟩
def canT (K : PySem.W.Frag) (W : WX) (dt : DTv) : TT := fun σ H Q => ∃ (C : Cc) (F : Hp) (ρ : List SV) (Φ : Bool → List SV → Prop) (Ξ : XQ), C.K = K ∧ I C F H σ ρ ∧ dt ρ Φ Ξ ∧
  (∀ b ρ' F' H', I C F' H' σ ρ' → Ext F F' → Φ b ρ' → Q b H') ∧ WOk W C F σ Ξ
theorem DTs.can {X : Cx} {ifs : List Expr} {tt : TT} {dt : DTv} (h : DTs X ifs tt dt) : DTs X ifs (canT X.K W0 dt) dt :=
  ⟨⟨fun pins s σ H Q J ⟨C, F, ρ, Φ, Ξ, hK, JJ, q, k, w⟩ => h.pts.run pins s σ H Q J (h.sim C F H σ ρ Φ Ξ Q hK JJ q k w)⟩, fun C F H σ ρ Φ Ξ Q hK J q k w => ⟨C, F, ρ, Φ, Ξ, hK, J, q, k, w⟩⟩
def canG (K : PySem.W.Frag) (sl : List Nat) (dg : DGv) : TG := fun v σ H Q => ∃ (C : Cc) (F : Hp) (ρ : List SV) (d : D) (k : List SV → Prop), C.K = K ∧ I C F H σ ρ ∧ Rep K F v d ∧ dg d ρ k ∧
  (∀ σ' ρ' F' H', I C F' H' σ' ρ' → Ext F F' → StayBut sl σ σ' → k ρ' → Q σ' H')
theorem DG.can {X : Cx} {tg : Expr} {g : TG} {sl : List Nat} {dg : DGv} (h : DG X tg g sl dg) : DG X tg (canG X.K sl dg) sl dg :=
  ⟨⟨fun pins s σ H v u Q J r ⟨C, F, ρ, d, k, hK, JJ, rr, q, kk⟩ => h.pg.run pins s σ H v u Q J r (h.sim C F H σ ρ v d k Q hK JJ rr q kk)⟩, fun C F H σ ρ v d k Q hK J r q kk => ⟨C, F, ρ, d, k, hK, J, r, q, kk⟩⟩
def canI (K : PySem.W.Frag) (W : WX) (di : DIv) : TI := fun σ H R => ∃ (C : Cc) (F : Hp) (ρ : List SV) (Φ : List D → List SV → Prop) (Ξ : XQ), C.K = K ∧ I C F H σ ρ ∧ di ρ Φ Ξ ∧
  (∀ J items ρ' F' H', I C F' H' σ ρ' → Ext F F' → Walks K F' J items → Φ items ρ' → R J H') ∧ WOk W C F σ Ξ
theorem DI.can {X : Cx} {W : WX} {tg iter : Expr} {wi : TI} {di : DIv} (h : DI X W tg iter wi di) : DI X W tg iter (canI X.K W di) di :=
  ⟨⟨fun pins s σ H R J ⟨C, F, ρ, Φ, Ξ, hK, JJ, q, k, w⟩ => h.pi.run pins s σ H R J (h.sim C F H σ ρ Φ Ξ R hK JJ q k w)⟩, fun C F H σ ρ Φ Ξ R hK J q k w => ⟨C, F, ρ, Φ, Ξ, hK, J, q, k, w⟩⟩
section
variable {X : Cx} {W : WX} {K : PySem.W.Frag} {elt tg iter tg1 iter1 : Expr} {ifs ifs1 : List Expr} {scope : Scope} {own : List (Str × Nat)} {vs vs1 : List Nat} {pos : Pos} {wi : TI} {di di1 : DIv} {dg dg1 : DGv} {dt dt1 : DTv} {de : DEv} {sl sl1 : List Nat}
theorem do_lcX (hc : X.calm = true) (hN : X.N.Nodup) (hi : DI X W tg iter wi di) (ok : BlkOk X.N X.env.scope scope own)
    (hg : ∀ (s : Shared) (H : Hp) (C : Addr) (cl : List (Str × Addr)) (fp : List Addr), ∃ g, DG (X.blk s H scope (compEnvC scope cl C X.env) fp) tg g sl dg) (ht : ∀ (s : Shared) (H : Hp) (C : Addr) (cl : List (Str × Addr)) (fp : List Addr), ∃ tt, DTs (X.blk s H scope (compEnvC scope cl C X.env) fp) ifs tt dt)
    (he : ∀ (s : Shared) (H : Hp) (C : Addr) (cl : List (Str × Addr)) (fp : List Addr), ∃ te, DE (X.blk s H scope (compEnvC scope cl C X.env) fp) W0 elt te de) (hsl : ∀ i ∈ sl, i ∈ own.map (·.2) := by decide) (hs : ∀ x, foldedSetIterable iter X.env x = pure x := by intro _; rfl) (hvs : own.map (·.2) = vs := by rfl) :
    DO X W (.ListComp elt [⟨tg, iter, ifs, 0⟩] scope pos) (tLc wi (canG X.K sl dg) (canT X.K W0 dt) (canE X.K W0 de) vs) (dLc di dg dt de vs) :=
  do_lc hc hN hi ok (fun s H C cl fp => (hg s H C cl fp).choose_spec.can) (fun s H C cl fp => (ht s H C cl fp).choose_spec.can) (fun s H C cl fp => (he s H C cl fp).choose_spec.can) hsl hs hvs
theorem ds_lcOX (i : Nat) {y : Str} {py spos : Pos} (hc : X.calm = true) (hN : X.N.Nodup) (hi : DI X W tg iter wi di) (ok : BlkOk X.N X.env.scope scope own)
    (hg : ∀ (s : Shared) (H : Hp) (C : Addr) (cl : List (Str × Addr)) (fp : List Addr), ∃ g, DG (X.blk s H scope (compEnvC scope cl C X.env) fp) tg g sl dg) (ht : ∀ (s : Shared) (H : Hp) (C : Addr) (cl : List (Str × Addr)) (fp : List Addr), ∃ tt, DTs (X.blk s H scope (compEnvC scope cl C X.env) fp) ifs tt dt)
    (he : ∀ (s : Shared) (H : Hp) (C : Addr) (cl : List (Str × Addr)) (fp : List Addr), ∃ te, DE (X.blk s H scope (compEnvC scope cl C X.env) fp) W0 elt te de) (hsw : swapsWith (.ListComp elt [⟨tg, iter, ifs, 0⟩] scope pos) (some (.Name y py)) spos.line X.env = pure true) (hy : X.N[i]? = some y := by rfl) (hyl : X.env.scope.names.lookup y = some .local := by rfl) (hsl : ∀ i ∈ sl, i ∈ own.map (·.2) := by decide) (hs : ∀ x, foldedSetIterable iter X.env x = pure x := by intro _; rfl) (hvs : own.map (·.2) = vs := by rfl) :
    DS X W (.Assign [.Name y py] (.ListComp elt [⟨tg, iter, ifs, 0⟩] scope pos) spos) (tAsg (tLc wi (canG X.K sl dg) (canT X.K W0 dt) (canE X.K W0 de) vs) (gName i)) (dAsgO (dLc di dg dt de vs) i) :=
  ds_lcO i hc hN hi ok (fun s H C cl fp => (hg s H C cl fp).choose_spec.can) (fun s H C cl fp => (ht s H C cl fp).choose_spec.can) (fun s H C cl fp => (he s H C cl fp).choose_spec.can) hsw hy hyl hsl hs hvs
theorem ds_lcX (i : Nat) {y : Str} {py spos : Pos} (hc : X.calm = true) (hN : X.N.Nodup) (hi : DI X W tg iter wi di) (ok : BlkOk X.N X.env.scope scope own)
    (hg : ∀ (s : Shared) (H : Hp) (C : Addr) (cl : List (Str × Addr)) (fp : List Addr), ∃ g, DG (X.blk s H scope (compEnvC scope cl C X.env) fp) tg g sl dg) (ht : ∀ (s : Shared) (H : Hp) (C : Addr) (cl : List (Str × Addr)) (fp : List Addr), ∃ tt, DTs (X.blk s H scope (compEnvC scope cl C X.env) fp) ifs tt dt)
    (he : ∀ (s : Shared) (H : Hp) (C : Addr) (cl : List (Str × Addr)) (fp : List Addr), ∃ te, DE (X.blk s H scope (compEnvC scope cl C X.env) fp) W0 elt te de) (hsw : swapsWith (.ListComp elt [⟨tg, iter, ifs, 0⟩] scope pos) (some (.Name y py)) spos.line X.env = pure true) (hy : X.N[i]? = some y := by rfl) (hyl : X.env.scope.names.lookup y = some .local := by rfl) (hsl : ∀ i ∈ sl, i ∈ own.map (·.2) := by decide) (hs : ∀ x, foldedSetIterable iter X.env x = pure x := by intro _; rfl) (hvs : own.map (·.2) = vs := by rfl) :
    DS X W (.Assign [.Name y py] (.ListComp elt [⟨tg, iter, ifs, 0⟩] scope pos) spos) (tAsg (tLc wi (canG X.K sl dg) (canT X.K W0 dt) (canE X.K W0 de) vs) (gName i)) (dAsg (dFrz (dLc di dg dt de vs)) (dgName i)) :=
  ds_lc i hc hN hi ok (fun s H C cl fp => (hg s H C cl fp).choose_spec.can) (fun s H C cl fp => (ht s H C cl fp).choose_spec.can) (fun s H C cl fp => (he s H C cl fp).choose_spec.can) hsw hy hyl hsl hs hvs
theorem do_lc2X (hc : X.calm = true) (hN : X.N.Nodup) (hi : DI X W tg iter wi di) (ok : BlkOk X.N X.env.scope scope own) (hv : ∀ i ∈ vs1, i ∈ own.map (·.2))
    (hg : ∀ (s : Shared) (H : Hp) (C : Addr) (cl : List (Str × Addr)) (fp : List Addr), ∃ g, DG (X.blk s H scope (compEnvC scope cl C X.env) fp) tg g sl dg) (ht : ∀ (s : Shared) (H : Hp) (C : Addr) (cl : List (Str × Addr)) (fp : List Addr), ∃ tt, DTs (X.blk s H scope (compEnvC scope cl C X.env) fp) ifs tt dt)
    (hi1 : ∀ (s : Shared) (H : Hp) (C : Addr) (cl : List (Str × Addr)) (fp : List Addr), ∃ wi1, DI (X.blk s H scope (compEnvC scope cl C X.env) fp) W0 tg1 iter1 wi1 di1)
    (hg1 : ∀ (s : Shared) (H : Hp) (C : Addr) (cl : List (Str × Addr)) (fp : List Addr), ∃ g, DG (X.blk s H scope (compEnvC scope cl C X.env) fp) tg1 g sl1 dg1) (ht1 : ∀ (s : Shared) (H : Hp) (C : Addr) (cl : List (Str × Addr)) (fp : List Addr), ∃ tt, DTs (X.blk s H scope (compEnvC scope cl C X.env) fp) ifs1 tt dt1)
    (he : ∀ (s : Shared) (H : Hp) (C : Addr) (cl : List (Str × Addr)) (fp : List Addr), ∃ te, DE (X.blk s H scope (compEnvC scope cl C X.env) fp) W0 elt te de) (hsl : ∀ i ∈ sl, i ∈ own.map (·.2) := by decide) (hsl1 : ∀ i ∈ sl1, i ∈ vs1 := by decide) (hs : ∀ x, foldedSetIterable iter X.env x = pure x := by intro _; rfl) (hs1 : ∀ env x, foldedSetIterable iter1 env x = pure x := by intro _ _; rfl) (hvs : own.map (·.2) = vs := by rfl) :
    DO X W (.ListComp elt [⟨tg, iter, ifs, 0⟩, ⟨tg1, iter1, ifs1, 0⟩] scope pos) (tLc2 wi (canG X.K sl dg) (canT X.K W0 dt) (canI X.K W0 di1) (canG X.K sl1 dg1) (canT X.K W0 dt1) (canE X.K W0 de) vs vs1) (dLc2 di dg dt di1 dg1 dt1 de vs vs1) :=
  do_lc2 hc hN hi ok hv (fun s H C cl fp => (hg s H C cl fp).choose_spec.can) (fun s H C cl fp => (ht s H C cl fp).choose_spec.can) (fun s H C cl fp => (hi1 s H C cl fp).choose_spec.can) (fun s H C cl fp => (hg1 s H C cl fp).choose_spec.can) (fun s H C cl fp => (ht1 s H C cl fp).choose_spec.can) (fun s H C cl fp => (he s H C cl fp).choose_spec.can) hsl hsl1 hs hs1 hvs
end
section
variable {X : Cx} {W : WX} {K : PySem.W.Frag}
/-- (a, b, ..) = a tuple or list of that length -/
def dgSeq (n : Nat) (b : DGsv) : DGv := fun d ρ k => match seqOf d with
  | some (_, ds) => if ds.length = n then b ds ρ k else False
  | none => False
theorem dg_seq {es : List Expr} {kk : Nat} {t : TGs} {b : DGsv} {n : Nat} {sl : List Nat} {pos : Pos} (hc : X.calm = true) (h : DGs X es t sl b) (hn : (assignEach es X.env).length = n := by rfl) (hst : (assignEach es X.env).findIdx? (·.1) = none := by rfl) :
    DG X (.Tuple es kk pos) (fun v σ H Q => gTup X.K n t v σ H Q ∨ gLst X.K n t v σ H Q) sl (dgSeq n b) := by
  refine ⟨⟨fun pins s σ H v u Q J r q => q.elim (fun q => (pg_tup hc h.pg hn hst).run pins s σ H v u Q J r q) (fun q => (pg_lst hc h.pg hn hst).run pins s σ H v u Q J r q)⟩, fun C F H σ ρ v d k Q hK J r hd q => ?_⟩
  unfold dgSeq at hd
  split at hd
  · rename_i bb ds e
    by_cases hl : ds.length = n
    · rw [if_pos hl] at hd
      cases bb with
      | true =>
        obtain ⟨a, ws, rfl, h1, h2⟩ := seqOf_tup J.fh r e
        exact .inl ⟨a, ws, rfl, h1.sqt J.fh, by rw [h2.length]; exact hl, h.sim C F H σ ρ ws ds k Q hK J h2 hd q⟩
      | false =>
        obtain ⟨a, ws, rfl, h1, h2⟩ := seqOf_list J.fh r e
        exact .inr ⟨a, ws, rfl, ext_l J.fh h1, by rw [h2.length]; exact hl, h.sim C F H σ ρ ws ds k Q hK J h2 hd q⟩
    · rw [if_neg hl] at hd; exact hd.elim
  · exact hd.elim
/-- from here on of an own list a word alone is kept -/
def dHide (i : Nat) (P : List D → Prop) (ds : DSv) : DSv := fun En ρ => match ρ[i]? with
  | some (.ol io xs) => P xs ∧ ds En (ρ.set i (.op io P))
  | _ => False
theorem Weaks.hide1 {P : List D → Prop} : ∀ {ρ : List SV} {i : Nat} {io : Bool} {xs : List D}, ρ[i]? = some (.ol io xs) → P xs → Weaks ρ (ρ.set i (.op io P))
  | [], i, io, xs, e, _ => by simp at e
  | a :: ρ, 0, io, xs, e, h => by simp at e; subst e; exact .cons (.op h) (.refl _)
  | a :: ρ, i + 1, io, xs, e, h => .cons (.refl _) (Weaks.hide1 (i := i) (by simpa using e) h)
theorem DSs.hide (i : Nat) (P : List D → Prop) {st : List Stmt} {ts : TS} {ds : DSv} (h : DSs X W st ts ds) : DSs X W st ts (dHide i P ds) := by
  refine ⟨h.ps, fun C F H σ ρ En D hK J q E => ?_⟩
  unfold dHide at q
  split at q
  · rename_i io xs e
    exact h.sim C F H σ _ En D hK (J.weak (Weaks.hide1 e q.1)) q.2 E
  · exact q.elim
end
end DL
namespace DL
open PySem PySem.Spec PyProof.Rows L2 DLR
/-! ### readings computed: one law a word -/
/-- a tuple or a list, by a flag -/
def sq (i : Bool) (xs : List D) : D := if i = true then .tup xs else .lst xs
theorem sq_t (xs : List D) : sq true xs = .tup xs := rfl
theorem sq_f (xs : List D) : sq false xs = .lst xs := rfl
theorem seqOf_sq (i : Bool) (xs : List D) : seqOf (sq i xs) = some (i, xs) := by cases i <;> rfl
theorem seqOf_tup' (xs : List D) : seqOf (.tup xs) = some (true, xs) := rfl
theorem seqOf_lst (xs : List D) : seqOf (.lst xs) = some (false, xs) := rfl
theorem seqOf_fl (xs : List D) : seqOf (.fl xs) = some (false, xs) := rfl
theorem dIx_sq (i : Bool) (xs : List D) (k : Int) (Φ : D → Prop) : dIx (sq i xs) (.int k) Φ = ∃ d, atI xs k = some d ∧ Φ d := by
  cases i
  · show (match atI xs k with
      | some d => Φ d
      | none => False) = _
    cases e : atI xs k <;> simp
  · show (match atI xs k with
      | some d => Φ d
      | none => False) = _
    cases e : atI xs k <;> simp
theorem dIx_tup (xs : List D) (k : Int) (Φ : D → Prop) : dIx (.tup xs) (.int k) Φ = ∃ d, atI xs k = some d ∧ Φ d := dIx_sq true xs k Φ
theorem dIx_lst (xs : List D) (k : Int) (Φ : D → Prop) : dIx (.lst xs) (.int k) Φ = ∃ d, atI xs k = some d ∧ Φ d := dIx_sq false xs k Φ
theorem dIx_fl (xs : List D) (k : Int) (Φ : D → Prop) : dIx (.fl xs) (.int k) Φ = ∃ d, atI xs k = some d ∧ Φ d := by
  show (match atI xs k with
      | some d => Φ d
      | none => False) = _
  cases e : atI xs k <;> simp
theorem ixO_m {xs : List D} {k : Int} {Φ : D → Prop} : (match atI xs k with
      | some d => Φ d
      | none => False) = ∃ d, atI xs k = some d ∧ Φ d := by cases e : atI xs k <;> simp
def itD (x : D) (k : List D → Prop) : Prop := match x with
  | .tup ds => k ds
  | .lst ds => k ds
  | .fl ds => k ds
  | _ => False
theorem itD_sq (i : Bool) (xs : List D) (k : List D → Prop) : itD (sq i xs) k = k xs := by cases i <;> rfl
theorem itD_tup (xs : List D) (k : List D → Prop) : itD (.tup xs) k = k xs := rfl
theorem itD_lst (xs : List D) (k : List D → Prop) : itD (.lst xs) k = k xs := rfl
theorem itD_fl (xs : List D) (k : List D → Prop) : itD (.fl xs) k = k xs := rfl
theorem dIter_eq (de : DEv) (ρ : List SV) (Φ : List D → List SV → Prop) (Ξ : XQ) : dIter de ρ Φ Ξ = de ρ (fun x ρ1 => itD x fun ds => Φ ds ρ1) Ξ := by
  unfold dIter
  rfl
def enD (ds : List D) (k : List D → Prop) : Prop := match ds with
  | [x] => itD x fun xs => k (numbered xs)
  | _ => False
theorem enD_one (x : D) (k : List D → Prop) : enD [x] k = itD x fun xs => k (numbered xs) := rfl
theorem dEnum_eq (da : DAv) (ρ : List SV) (Φ : List D → List SV → Prop) (Ξ : XQ) : dEnum da ρ Φ Ξ = dArgs da (fun ds ρ1 => enD ds fun xs => Φ xs ρ1) ρ Ξ := by
  unfold dEnum
  congr 1
  funext ds ρ1
  unfold enD
  split <;> try rfl
  rename_i h1 h2 h3
  match ds, h1, h2, h3 with
  | [], _, _, _ => rfl
  | [x], h1, h2, h3 => cases x <;> first | rfl | exact absurd rfl (h1 _) | exact absurd rfl (h2 _) | exact absurd rfl (h3 _)
  | _ :: _ :: _, _, _, _ => rfl
def slD (x : D) (lo hi : Option Int) (k : D → Prop) : Prop := match x with
  | .tup xs => k (.tup (cutD xs lo hi))
  | .lst xs => k (.lst (cutD xs lo hi))
  | .fl xs => k (.lst (cutD xs lo hi))
  | _ => False
theorem slD_sq (i : Bool) (xs : List D) (lo hi : Option Int) (k : D → Prop) : slD (sq i xs) lo hi k = k (sq i (cutD xs lo hi)) := by cases i <;> rfl
theorem slD_tup (xs : List D) (lo hi : Option Int) (k : D → Prop) : slD (.tup xs) lo hi k = k (.tup (cutD xs lo hi)) := rfl
theorem slD_lst (xs : List D) (lo hi : Option Int) (k : D → Prop) : slD (.lst xs) lo hi k = k (.lst (cutD xs lo hi)) := rfl
theorem slD_fl (xs : List D) (lo hi : Option Int) (k : D → Prop) : slD (.fl xs) lo hi k = k (.lst (cutD xs lo hi)) := rfl
theorem dSl_eq (de : DEv) (dl dh : DPv) (ρ : List SV) (Φ : D → List SV → Prop) (Ξ : XQ) : dSl de dl dh ρ Φ Ξ = de ρ (fun x ρ1 => dl ρ1 (fun lo ρ2 => dh ρ2 (fun hi ρ3 => slD x lo hi fun z => Φ z ρ3) Ξ) Ξ) Ξ := by
  rfl
theorem dLen_sq (i : Bool) (xs : List D) (Φ : D → Prop) : dLen [sq i xs] Φ = Φ (.int xs.length) := by cases i <;> rfl
theorem dLen_tup (xs : List D) (Φ : D → Prop) : dLen [.tup xs] Φ = Φ (.int xs.length) := rfl
theorem dLen_lst (xs : List D) (Φ : D → Prop) : dLen [.lst xs] Φ = Φ (.int xs.length) := rfl
theorem dLen_fl (xs : List D) (Φ : D → Prop) : dLen [.fl xs] Φ = Φ (.int xs.length) := rfl
theorem dListOf_sq (i : Bool) (xs : List D) (Φ : List D → Prop) : dListOf [sq i xs] Φ = Φ xs := by cases i <;> rfl
theorem dListOf_tup (xs : List D) (Φ : List D → Prop) : dListOf [.tup xs] Φ = Φ xs := rfl
theorem dListOf_lst (xs : List D) (Φ : List D → Prop) : dListOf [.lst xs] Φ = Φ xs := rfl
theorem dTupOf_sq (i : Bool) (xs : List D) (Φ : D → Prop) : dTupOf [sq i xs] Φ = Φ (.tup xs) := by cases i <;> rfl
theorem dTupOf_tup (xs : List D) (Φ : D → Prop) : dTupOf [.tup xs] Φ = Φ (.tup xs) := rfl
theorem dTupOf_lst (xs : List D) (Φ : D → Prop) : dTupOf [.lst xs] Φ = Φ (.tup xs) := rfl
theorem tyN_sq (i : Bool) (xs : List D) : (sq i xs).tyN = some (if i = true then "tuple" else "list") := by cases i <;> rfl
theorem isNon_sq (i : Bool) (xs : List D) : isNon (sq i xs) = false := by cases i <;> rfl
theorem dIsi_sq (i : Bool) (xs : List D) (n : String) (Φ : D → Prop) : dIsi [sq i xs, .ty n] Φ = (n ∈ tyTs ∧ Φ (.bl (n == if i = true then "tuple" else "list"))) := by
  cases i
  · show (n ∈ tyTs ∧ Φ (.bl (isaN "list" n))) = _
    have : isaN "list" n = (n == "list") := by unfold isaN; rw [show ("list" == "bool") = false from rfl, Bool.false_and, Bool.or_false]; exact Bool.beq_comm
    rw [this]; rfl
  · show (n ∈ tyTs ∧ Φ (.bl (isaN "tuple" n))) = _
    have : isaN "tuple" n = (n == "tuple") := by unfold isaN; rw [show ("tuple" == "bool") = false from rfl, Bool.false_and, Bool.or_false]; exact Bool.beq_comm
    rw [this]; rfl
theorem dIsiT_row (i : Bool) (xs : List D) (Φ : D → Prop) : dIsiT [sq i xs, .tup [.ty "list", .ty "tuple"]] Φ = Φ (.bl true) := by
  cases i
  · show ((∀ n ∈ ["list", "tuple"], n ∈ tyTs) ∧ Φ (.bl true)) = _
    exact propext ⟨fun h => h.2, fun h => ⟨by decide, h⟩⟩
  · show ((∀ n ∈ ["list", "tuple"], n ∈ tyTs) ∧ Φ (.bl true)) = _
    exact propext ⟨fun h => h.2, fun h => ⟨by decide, h⟩⟩
theorem dIsi_int (k : Int) (n : String) (Φ : D → Prop) : dIsi [.int k, .ty n] Φ = (n ∈ tyTs ∧ Φ (.bl (isaN "int" n))) := rfl
theorem dIsi_ii (k : Int) (Φ : D → Prop) : dIsi [.int k, .ty "int"] Φ = Φ (.bl true) := propext ⟨fun h => h.2, fun h => ⟨by decide, h⟩⟩
theorem dIsi_ib (k : Int) (Φ : D → Prop) : dIsi [.int k, .ty "bool"] Φ = Φ (.bl false) := propext ⟨fun h => h.2, fun h => ⟨by decide, h⟩⟩
theorem dIsi_tt (xs : List D) (Φ : D → Prop) : dIsi [.tup xs, .ty "tuple"] Φ = Φ (.bl true) := propext ⟨fun h => h.2, fun h => ⟨by decide, h⟩⟩
theorem dIsi_ll (xs : List D) (Φ : D → Prop) : dIsi [.lst xs, .ty "list"] Φ = Φ (.bl true) := propext ⟨fun h => h.2, fun h => ⟨by decide, h⟩⟩
theorem intsL_ints (ns : List Int) : D.intsL (ns.map D.int) = some ns := intsL_map ns
theorem blsL_bls (ns : List Bool) : D.blsL (ns.map D.bl) = some ns := blsL_map ns
/-! equality -/
theorem dEq_int (i j : Int) (Φ : D → Prop) : dEq (.int i) (.int j) Φ = Φ (.bl (decide (i = j))) := by
  have h1 : (D.int i).lay = true := by show SeqAt.shaped (.int i) = true; rfl
  have h2 : (D.int j).lay = true := by show SeqAt.shaped (.int j) = true; rfl
  have h3 : PyData.eqv (D.int i).py (D.int j).py = decide (i = j) := by
    show PyData.eqv (.int i) (.int j) = _
    unfold PyData.eqv
    by_cases h : i = j <;> simp [h]
  unfold dEq
  rw [h3]
  exact propext ⟨fun h => h.2.2, fun h => ⟨h1, h2, h⟩⟩
theorem dNe_int (i j : Int) (Φ : D → Prop) : dNe (.int i) (.int j) Φ = Φ (.bl (decide (i ≠ j))) := by
  have h1 : (D.int i).lay = true := by show SeqAt.shaped (.int i) = true; rfl
  have h2 : (D.int j).lay = true := by show SeqAt.shaped (.int j) = true; rfl
  have h3 : PyData.eqv (D.int i).py (D.int j).py = decide (i = j) := by
    show PyData.eqv (.int i) (.int j) = _
    unfold PyData.eqv
    by_cases h : i = j <;> simp [h]
  unfold dNe
  rw [h3]
  have : (!decide (i = j)) = decide (i ≠ j) := by by_cases h : i = j <;> simp [h]
  rw [this]
  exact propext ⟨fun h => h.2.2, fun h => ⟨h1, h2, h⟩⟩
/-- plain data, n deep at most: numbers, None, tuples, lists -/
inductive Pl : Nat → D → Prop
  | non (n : Nat) : Pl n .non
  | int (n : Nat) (i : Int) : Pl n (.int i)
  | tup {n : Nat} {xs : List D} : (∀ x ∈ xs, Pl n x) → Pl (n + 1) (.tup xs)
  | lst {n : Nat} {xs : List D} : (∀ x ∈ xs, Pl n x) → Pl (n + 1) (.lst xs)
theorem Pl.sq {n : Nat} {i : Bool} {xs : List D} (h : ∀ x ∈ xs, Pl n x) : Pl (n + 1) (sq i xs) := by cases i; exact .lst h; exact .tup h
theorem Pl.ints {n : Nat} {ns : List Int} : ∀ x ∈ ns.map D.int, Pl n x := fun x hx => by
  obtain ⟨y, _, rfl⟩ := List.mem_map.mp hx; exact .int n y
theorem Pl.lints {n : Nat} {ns : List Int} : Pl (n + 1) (.lst (ns.map D.int)) := .lst Pl.ints
theorem Pl.tints {n : Nat} {ns : List Int} : Pl (n + 1) (.tup (ns.map D.int)) := .tup Pl.ints
theorem Pl.all2 {n : Nat} {x y : D} (hx : Pl n x) (hy : Pl n y) : ∀ z ∈ [x, y], Pl n z := fun z hz => by
  rw [List.mem_cons, List.mem_cons] at hz
  rcases hz with rfl | rfl | hz
  · exact hx
  · exact hy
  · cases hz
theorem Pl.map {α : Type} {n : Nat} {f : α → D} {xs : List α} (h : ∀ x ∈ xs, Pl n (f x)) : ∀ z ∈ xs.map f, Pl n z := fun z hz => by
  obtain ⟨y, hy, rfl⟩ := List.mem_map.mp hz; exact h y hy
theorem pys_lay {n : Nat} (ih : ∀ d, Pl n d → d.py.canLay0 = true ∧ d.py.depth ≤ n) : ∀ ys : List D, (∀ y ∈ ys, Pl n y) → PyData.canLayAll0 (D.pys ys) = true ∧ PyData.depthAll (D.pys ys) ≤ n
  | [], _ => ⟨rfl, Nat.zero_le _⟩
  | y :: ys, q => by
    have a := ih y (q y List.mem_cons_self)
    have b := pys_lay ih ys fun z hz => q z (List.mem_cons_of_mem _ hz)
    refine ⟨?_, ?_⟩
    · show (PyData.canLay0 y.py && PyData.canLayAll0 (D.pys ys)) = true
      rw [a.1, b.1]; rfl
    · show max (PyData.depth y.py) (PyData.depthAll (D.pys ys)) ≤ n
      omega
theorem pl_lay : ∀ (n : Nat) (d : D), Pl n d → d.py.canLay0 = true ∧ d.py.depth ≤ n
  | n, _, .non _ => ⟨rfl, Nat.zero_le _⟩
  | n, _, .int _ _ => ⟨rfl, Nat.zero_le _⟩
  | n + 1, .tup xs, h => by
    cases h with
    | tup h =>
      have t := pys_lay (pl_lay n) xs h
      refine ⟨t.1, ?_⟩
      show PyData.depthAll (D.pys xs) + 1 ≤ n + 1
      omega
  | n + 1, .lst xs, h => by
    cases h with
    | lst h =>
      have t := pys_lay (pl_lay n) xs h
      refine ⟨t.1, ?_⟩
      show PyData.depthAll (D.pys xs) + 1 ≤ n + 1
      omega
theorem lay_pl {n : Nat} {d : D} (h : Pl n d) (hn : n ≤ 64 := by decide) : d.lay = true := by
  have := pl_lay n d h
  show (PyData.canLay0 d.py && decide (d.py.depth ≤ 64)) = true
  rw [this.1, Bool.true_and, decide_eq_true_eq]
  omega
theorem pys_eqv {n : Nat} (ih : ∀ x y, Pl n x → Pl n y → (PyData.eqv x.py y.py = true ↔ x = y)) : ∀ us vs : List D, (∀ y ∈ us, Pl n y) → (∀ y ∈ vs, Pl n y) → (PyData.eqvAll (D.pys us) (D.pys vs) = true ↔ us = vs)
  | [], [], _, _ => by simp [D.pys, PyData.eqvAll]
  | [], _ :: _, _, _ => by simp [D.pys, PyData.eqvAll]
  | _ :: _, [], _, _ => by simp [D.pys, PyData.eqvAll]
  | u :: us, v :: vs, a, b => by
    show (PyData.eqv u.py v.py && PyData.eqvAll (D.pys us) (D.pys vs)) = true ↔ _
    rw [Bool.and_eq_true, ih u v (a u List.mem_cons_self) (b v List.mem_cons_self), pys_eqv ih us vs (fun z hz => a z (List.mem_cons_of_mem _ hz)) (fun z hz => b z (List.mem_cons_of_mem _ hz))]
    simp
theorem eqv_pl : ∀ (n : Nat) (x y : D), Pl n x → Pl n y → (PyData.eqv x.py y.py = true ↔ x = y)
  | n, _, y, .non _, h => by cases h <;> simp [D.py, PyData.eqv]
  | n, _, y, .int _ i, h => by cases h <;> simp [D.py, PyData.eqv]
  | n + 1, .tup xs, y, .tup h, h2 => by
    cases h2 with
    | @tup _ ys h2 =>
      show PyData.eqvAll (D.pys xs) (D.pys ys) = true ↔ _
      rw [pys_eqv (eqv_pl n) xs ys h h2]
      simp
    | _ => simp [D.py, PyData.eqv]
  | n + 1, .lst xs, y, .lst h, h2 => by
    cases h2 with
    | @lst _ ys h2 =>
      show PyData.eqvAll (D.pys xs) (D.pys ys) = true ↔ _
      rw [pys_eqv (eqv_pl n) xs ys h h2]
      simp
    | _ => simp [D.py, PyData.eqv]
theorem dEq_of {n : Nat} {x y : D} {Φ : D → Prop} (hx : Pl n x) (hy : Pl n y) (h : ∀ b : Bool, (b = true ↔ x = y) → Φ (.bl b)) (hn : n ≤ 64 := by decide) : dEq x y Φ :=
  ⟨lay_pl hx hn, lay_pl hy hn, h _ (eqv_pl n x y hx hy)⟩
theorem dNe_of {n : Nat} {x y : D} {Φ : D → Prop} (hx : Pl n x) (hy : Pl n y) (h : ∀ b : Bool, (b = true ↔ x ≠ y) → Φ (.bl b)) (hn : n ≤ 64 := by decide) : dNe x y Φ := by
  refine ⟨lay_pl hx hn, lay_pl hy hn, h _ ?_⟩
  rw [Bool.not_eq_true', ← Bool.not_eq_true, eqv_pl n x y hx hy]
theorem dIn_of {n : Nat} {x y : D} {xs : List D} {neg : Bool} {Φ : D → Prop} (hy : y.items = some xs) (hx : Pl n x) (hxs : ∀ z ∈ xs, Pl n z) (h : ∀ b : Bool, (b = true ↔ x ∈ xs) → Φ (.bl (if neg = true then !b else b))) (hn : n ≤ 63 := by decide) : dIn neg x y Φ := by
  unfold dIn
  rw [hy]
  refine ⟨lay_pl hx (by omega), lay_pl (n := n + 1) (d := .lst xs) (.lst hxs) (by omega), ?_⟩
  refine h (xs.any fun z => PyData.eqv z.py x.py) ?_
  rw [List.any_eq_true]
  constructor
  · rintro ⟨z, hz, e⟩
    rw [eqv_pl n z x (hxs z hz) hx] at e
    exact e ▸ hz
  · intro hm
    exact ⟨x, hm, (eqv_pl n x x hx hx).mpr rfl⟩
/-! places -/
theorem atI_0 {α : Type} (x : α) (xs : List α) : atI (x :: xs) 0 = some x := by
  unfold atI ixN; simp
theorem atI_nn {α : Type} {xs : List α} {k : Int} {d : α} (h0 : 0 ≤ k) (h : xs[k.toNat]? = some d) : atI xs k = some d := by
  have hl := (List.getElem?_eq_some_iff.mp h).1
  unfold atI
  rw [ixN_of h0 hl]; exact h
theorem atI_1 {α : Type} (x y : α) (xs : List α) : atI (x :: y :: xs) 1 = some y := atI_nn (by decide) rfl
theorem atI_2 {α : Type} (x y z : α) (xs : List α) : atI (x :: y :: z :: xs) 2 = some z := atI_nn (by decide) rfl
theorem atI_3 {α : Type} (x y z u : α) (xs : List α) : atI (x :: y :: z :: u :: xs) 3 = some u := atI_nn (by decide) rfl
theorem atI_ints {ns : List Int} {k : Int} (h0 : 0 ≤ k) (h : k.toNat < ns.length) : atI (ns.map D.int) k = some (.int (ns[k.toNat]'h)) :=
  atI_nn h0 (by rw [List.getElem?_map, List.getElem?_eq_getElem h]; rfl)
theorem ixN_lit0 (n : Nat) : ixN (n + 1) 0 = some 0 := ixN_of (by decide) (Nat.succ_pos _)
theorem ixN_lit1 (n : Nat) : ixN (n + 2) 1 = some 1 := ixN_of (by decide) (by show 1 < n + 2; omega)
theorem ixN_lit2 (n : Nat) : ixN (n + 3) 2 = some 2 := ixN_of (by decide) (by show 2 < n + 3; omega)
theorem ixN_lit3 (n : Nat) : ixN (n + 4) 3 = some 3 := ixN_of (by decide) (by show 3 < n + 4; omega)
/-! slices -/
theorem cutD_upto (xs : List D) (k : Int) (h : 0 ≤ k) : cutD xs none (some k) = xs.take k.toNat := by
  unfold cutD
  have e : HT.sIx xs.length xs.length (some k) = min k.toNat xs.length := by
    have := HT.sIx_nat xs.length xs.length k.toNat
    rw [Int.toNat_of_nonneg h] at this; exact this
  rw [e, HT.sIx_none, List.drop_zero, Nat.sub_zero]
  by_cases q : k.toNat ≤ xs.length
  · rw [Nat.min_eq_left q]
  · rw [Nat.min_eq_right (by omega), List.take_of_length_le (Nat.le_refl _), List.take_of_length_le (by omega)]
theorem cutD_from (xs : List D) (k : Int) (h : 0 ≤ k) : cutD xs (some k) none = xs.drop k.toNat := by
  unfold cutD
  have e : HT.sIx xs.length 0 (some k) = min k.toNat xs.length := by
    have := HT.sIx_nat xs.length 0 k.toNat
    rw [Int.toNat_of_nonneg h] at this; exact this
  rw [e, HT.sIx_none]
  by_cases q : k.toNat ≤ xs.length
  · rw [Nat.min_eq_left q, List.take_of_length_le (by simp)]
  · rw [Nat.min_eq_right (by omega), List.drop_of_length_le (Nat.le_refl _), List.drop_of_length_le (by omega)]; simp
theorem cutD_both (xs : List D) (i j : Int) (hi : 0 ≤ i) (hj : 0 ≤ j) : cutD xs (some i) (some j) = (xs.drop i.toNat).take (j.toNat - i.toNat) := by
  unfold cutD
  have e : HT.sIx xs.length 0 (some i) = min i.toNat xs.length := by
    have := HT.sIx_nat xs.length 0 i.toNat
    rw [Int.toNat_of_nonneg hi] at this; exact this
  have e2 : HT.sIx xs.length xs.length (some j) = min j.toNat xs.length := by
    have := HT.sIx_nat xs.length xs.length j.toNat
    rw [Int.toNat_of_nonneg hj] at this; exact this
  rw [e, e2]
  by_cases q : i.toNat ≤ xs.length
  · rw [Nat.min_eq_left q]
    by_cases q2 : j.toNat ≤ xs.length
    · rw [Nat.min_eq_left q2]
    · rw [Nat.min_eq_right (by omega), List.take_of_length_le (l := xs.drop i.toNat) (by simp), List.take_of_length_le (by simp; omega)]
  · have m1 : min i.toNat xs.length = xs.length := by omega
    rw [m1, List.drop_of_length_le (Nat.le_refl _), List.drop_of_length_le (by omega)]; simp
/-! slots, operations: on known things alone -/
theorem setIo_un (b : Bool) : SV.setIo b .un = .un := rfl
theorem setIo_d (b : Bool) (x : D) : SV.setIo b (.d x) = .d x := rfl
theorem setIo_ol (b c : Bool) (xs : List D) : SV.setIo b (.ol c xs) = .ol b xs := rfl
theorem setIo_op (b c : Bool) (P : List D → Prop) : SV.setIo b (.op c P) = .op b P := rfl
theorem setIo_ok (b c : Bool) (ks : List Key) (xs : List D) : SV.setIo b (.ok c ks xs) = .ok b ks xs := rfl
theorem setIo_ot (b c : Bool) (ks : List (List Key)) (xs : List D) : SV.setIo b (.ot c ks xs) = .ot b ks xs := rfl
theorem own_un : SV.own .un = false := rfl
theorem own_d (x : D) : SV.own (.d x) = false := rfl
theorem own_ol (c : Bool) (xs : List D) : SV.own (.ol c xs) = true := rfl
theorem own_op (c : Bool) (P : List D → Prop) : SV.own (.op c P) = true := rfl
theorem own_ok (c : Bool) (ks : List Key) (xs : List D) : SV.own (.ok c ks xs) = true := rfl
theorem own_ot (c : Bool) (ks : List (List Key)) (xs : List D) : SV.own (.ot c ks xs) = true := rfl
theorem io_un : SV.io .un = false := rfl
theorem io_d (x : D) : SV.io (.d x) = false := rfl
theorem io_ol (c : Bool) (xs : List D) : SV.io (.ol c xs) = c := rfl
theorem io_op (c : Bool) (P : List D → Prop) : SV.io (.op c P) = c := rfl
theorem io_ok (c : Bool) (ks : List Key) (xs : List D) : SV.io (.ok c ks xs) = c := rfl
theorem io_ot (c : Bool) (ks : List (List Key)) (xs : List D) : SV.io (.ot c ks xs) = c := rfl
theorem dAdd_int (i j : Int) (Φ : D → Prop) : dAdd (.int i) (.int j) Φ = Φ (.int (i + j)) := rfl
theorem dAdd_tup (xs ys : List D) (Φ : D → Prop) : dAdd (.tup xs) (.tup ys) Φ = (xs.length + ys.length ≤ 1000000 ∧ Φ (.tup (xs ++ ys))) := rfl
theorem dAdd_lst (xs ys : List D) (Φ : D → Prop) : dAdd (.lst xs) (.lst ys) Φ = (xs.length + ys.length ≤ 1000000 ∧ Φ (.lst (xs ++ ys))) := rfl
theorem dAdd_str (a b : Str) (Φ : D → Prop) : dAdd (.str a) (.str b) Φ = (a.length + b.length ≤ 1000000 ∧ Φ (.str (a ++ b))) := rfl
theorem dI0_int (g : Int → Int → D) (i j : Int) (Φ : D → Prop) : dI0 g (.int i) (.int j) Φ = Φ (g i j) := rfl
theorem dI2_int (C : Int → Int → Prop) (g : Int → Int → D) (i j : Int) (Φ : D → Prop) : dI2 C g (.int i) (.int j) Φ = (C i j ∧ Φ (g i j)) := rfl
theorem dLt_int (i j : Int) (Φ : D → Prop) : dLt (.int i) (.int j) Φ = Φ (.bl (decide (i < j))) := rfl
theorem dLe_int (i j : Int) (Φ : D → Prop) : dLe (.int i) (.int j) Φ = Φ (.bl (decide (i ≤ j))) := rfl
theorem dGt_int (i j : Int) (Φ : D → Prop) : dGt (.int i) (.int j) Φ = Φ (.bl (decide (j < i))) := rfl
theorem dGe_int (i j : Int) (Φ : D → Prop) : dGe (.int i) (.int j) Φ = Φ (.bl (decide (j ≤ i))) := rfl
theorem dIsN_non (x : D) (Φ : D → Prop) : dIsN x .non Φ = Φ (.bl (isNon x)) := rfl
theorem dNotN_non (x : D) (Φ : D → Prop) : dNotN x .non Φ = Φ (.bl (!isNon x)) := rfl
theorem dIsB_bl (a b : Bool) (Φ : D → Prop) : dIsB (.bl a) (.bl b) Φ = Φ (.bl (decide (a = b))) := rfl
theorem dNotB_bl (a b : Bool) (Φ : D → Prop) : dNotB (.bl a) (.bl b) Φ = Φ (.bl (!decide (a = b))) := rfl
theorem isNon_non : isNon .non = true := rfl
theorem isNon_int (i : Int) : isNon (.int i) = false := rfl
theorem isNon_bl (b : Bool) : isNon (.bl b) = false := rfl
theorem isNon_str (b : Str) : isNon (.str b) = false := rfl
theorem isNon_tup (xs : List D) : isNon (.tup xs) = false := rfl
theorem isNon_lst (xs : List D) : isNon (.lst xs) = false := rfl
theorem dIntOf_int (i : Int) (Φ : D → Prop) : dIntOf [.int i] Φ = Φ (.int i) := rfl
theorem dIntOf_bl (b : Bool) (Φ : D → Prop) : dIntOf [.bl b] Φ = Φ (.int (if b then 1 else 0)) := rfl
theorem dInt1_int (C : Int → Prop) (g : Int → D) (i : Int) (Φ : D → Prop) : dInt1 C g [.int i] Φ = (C i ∧ Φ (g i)) := rfl
theorem dInt2_int (g : Int → Int → D) (i j : Int) (Φ : D → Prop) : dInt2 g [.int i, .int j] Φ = Φ (g i j) := rfl
def tsD (x : D) (k : Bool → Prop) : Prop := match x with
  | .bl b => k b
  | _ => False
theorem tsD_bl (b : Bool) (k : Bool → Prop) : tsD (.bl b) k = k b := rfl
theorem dTest_eq (de : DEv) (ρ : List SV) (Φ : Bool → List SV → Prop) (Ξ : XQ) : dTest de ρ Φ Ξ = de ρ (fun x ρ1 => tsD x fun b => Φ b ρ1) Ξ := rfl
theorem dAndV_eq (a b : DEv) (ρ : List SV) (Φ : D → List SV → Prop) (Ξ : XQ) : dAndV a b ρ Φ Ξ = a ρ (fun x ρ1 => tsD x fun c => if c = true then b ρ1 Φ Ξ else Φ (.bl false) ρ1) Ξ := rfl
theorem dOrV_eq (a b : DEv) (ρ : List SV) (Φ : D → List SV → Prop) (Ξ : XQ) : dOrV a b ρ Φ Ξ = a ρ (fun x ρ1 => tsD x fun c => if c = true then Φ (.bl true) ρ1 else b ρ1 Φ Ξ) Ξ := rfl
theorem dNotV_eq (a : DEv) (ρ : List SV) (Φ : D → List SV → Prop) (Ξ : XQ) : dNotV a ρ Φ Ξ = a ρ (fun x ρ1 => tsD x fun c => Φ (.bl (!c)) ρ1) Ξ := rfl
theorem dChain_eq (rd rd' : D → D → (D → Prop) → Prop) (da db dc : DEv) (ρ : List SV) (Φ : D → List SV → Prop) (Ξ : XQ) : dChain rd rd' da db dc ρ Φ Ξ = da ρ (fun x ρ1 => db ρ1 (fun y ρ2 => rd x y fun z => tsD z fun c => if c = true then dc ρ2 (fun u ρ3 => rd' y u fun z => Φ z ρ3) Ξ else Φ (.bl false) ρ2) Ξ) Ξ := rfl
/-! calls -/
theorem dCall_of {S : DSpec} {dvs : List D} {da : DAv} {ρ : List SV} {Φ : D → List SV → Prop} {Ξ : XQ} : dCall S dvs da ρ Φ Ξ = da ρ (fun as ρ1 =>
  (as.all (AV.ok ρ1) = true ∧ (slotsOf as).Nodup) ∧ S (as.map (AV.sv ρ1) ++ dvs.map SV.d) (fun d svs' => Φ d (putBack ρ1 as svs')) (fun nm d svs' => Ξ nm d (putBack ρ1 as svs'))) Ξ := by
  unfold dCall
  congr 1
  funext as ρ1
  by_cases h : as.all (AV.ok ρ1) = true ∧ (slotsOf as).Nodup
  · rw [if_pos h]; simp only [h, true_and, and_self]
  · rw [if_neg h]; simp only [h, false_and]
theorem dCallO_of {S : DSpecO} {dvs : List D} {da : DAv} {ρ : List SV} {Φ : List D → List SV → Prop} {Ξ : XQ} : dCallO S dvs da ρ Φ Ξ = da ρ (fun as ρ1 =>
  (as.all (AV.ok ρ1) = true ∧ (slotsOf as).Nodup) ∧ S (as.map (AV.sv ρ1) ++ dvs.map SV.d) (fun d svs' => Φ d (putBack ρ1 as svs')) (fun nm d svs' => Ξ nm d (putBack ρ1 as svs'))) Ξ := by
  unfold dCallO
  congr 1
  funext as ρ1
  by_cases h : as.all (AV.ok ρ1) = true ∧ (slotsOf as).Nodup
  · rw [if_pos h]; simp only [h, true_and, and_self]
  · rw [if_neg h]; simp only [h, false_and]
end DL
namespace DL
open PySem PySem.Spec PyProof.Rows L2 DLR
/-! ### loops, comprehensions by their items -/
def Nxt (St : Nat → List SV → Prop) (i : Nat) (ρ4 : List SV) : Prop := ∃ ρ5, Weaks ρ4 ρ5 ∧ St i ρ5
theorem for_of {di : DIv} {dg : DGv} {db : DSv} {En : DEnds} {ρ : List SV} (items : List D) (ρ1 : List SV) (hdi : ∀ (Φ : List D → List SV → Prop) (Ξ : XQ), Φ items ρ1 → di ρ Φ Ξ) (St : Nat → List SV → Prop) (h0 : St 0 ρ1)
    (hs : ∀ i x ρ2, items[i]? = some x → St i ρ2 → dg x ρ2 fun ρ3 => db { En with nx := Nxt St (i + 1), ct := Nxt St (i + 1), bk := En.nx } ρ3)
    (hd : ∀ ρ2, St items.length ρ2 → En.nx ρ2) : dFor di dg db En ρ := hdi _ _ ⟨St, h0, hs, hd⟩
theorem lc_of {di : DIv} {dg : DGv} {dt : DTv} {de : DEv} {vs : List Nat} {ρ : List SV} {Φ : List D → List SV → Prop} {Ξ : XQ} (items : List D) (ρ1 : List SV) (hdi : ∀ (Φ : List D → List SV → Prop) (Ξ : XQ), Φ items ρ1 → di ρ Φ Ξ) (hno : noOwn ρ1 vs = true) (hlen : items.length ≤ 1000000) (St : Nat → List D → Prop) (h0 : St 0 [])
    (hs : ∀ (i : Nat) (x : D) (acc : List D), items[i]? = some x → St i acc → dg x (ioAll (wipeS ρ1 vs)) fun ρ2 => dt ρ2 (fun b ρ3 =>
      if b = true then de ρ3 (fun y ρ4 => Same ρ4 (ioAll (wipeS ρ1 vs)) vs ∧ St (i + 1) (acc ++ [y])) X0 else Same ρ3 (ioAll (wipeS ρ1 vs)) vs ∧ St (i + 1) acc) X0)
    (hd : ∀ acc, St items.length acc → Φ acc ρ1) : dLc di dg dt de vs ρ Φ Ξ := hdi _ _ ⟨hno, hlen, St, h0, hs, hd⟩
/-- a comprehension without a test, item by item -/
theorem lc_map {α : Type} {di : DIv} {dg : DGv} {de : DEv} {vs : List Nat} {ρ : List SV} {Φ : List D → List SV → Prop} {Ξ : XQ} (as : List α) (f g : α → D) (ρ1 : List SV) (hdi : ∀ (Φ : List D → List SV → Prop) (Ξ : XQ), Φ (as.map f) ρ1 → di ρ Φ Ξ) (hno : noOwn ρ1 vs = true) (hlen : as.length ≤ 1000000)
    (hs : ∀ (a : α) (k : D → List SV → Prop), a ∈ as → (∀ ρ4, Same ρ4 (ioAll (wipeS ρ1 vs)) vs → k (g a) ρ4) → dg (f a) (ioAll (wipeS ρ1 vs)) fun ρ2 => de ρ2 k X0)
    (hd : Φ (as.map g) ρ1) : dLc di dg dYes de vs ρ Φ Ξ := by
  refine lc_of (as.map f) ρ1 hdi hno (by rw [List.length_map]; exact hlen) (fun i acc => acc = (as.take i).map g) (by simp) (fun i x acc hx ha => ?_) (fun acc ha => ?_)
  · rw [List.getElem?_map] at hx
    cases e : as[i]? with
    | none => rw [e] at hx; cases hx
    | some a =>
      rw [e] at hx; cases hx
      subst ha
      have hi : i < as.length := (List.getElem?_eq_some_iff.mp e).1
      have := hs a (fun y ρ4 => Same ρ4 (ioAll (wipeS ρ1 vs)) vs ∧ (as.take i).map g ++ [y] = (as.take (i + 1)).map g) (List.mem_of_getElem? e) fun ρ4 h4 => ⟨h4, by
        rw [List.take_succ, e]; simp⟩
      simpa [dYes] using this
  · rw [List.length_map] at ha
    rw [List.take_length] at ha
    subst ha; exact hd
/-- .. with a test -/
theorem lc_filter {α : Type} {di : DIv} {dg : DGv} {dt : DTv} {de : DEv} {vs : List Nat} {ρ : List SV} {Φ : List D → List SV → Prop} {Ξ : XQ} (as : List α) (f g : α → D) (p : α → Bool) (ρ1 : List SV) (hdi : ∀ (Φ : List D → List SV → Prop) (Ξ : XQ), Φ (as.map f) ρ1 → di ρ Φ Ξ) (hno : noOwn ρ1 vs = true) (hlen : as.length ≤ 1000000)
    (hs : ∀ (a : α) (k : D → List SV → Prop) (k0 : List SV → Prop), a ∈ as → (∀ ρ4, Same ρ4 (ioAll (wipeS ρ1 vs)) vs → k (g a) ρ4) → (∀ ρ4, Same ρ4 (ioAll (wipeS ρ1 vs)) vs → k0 ρ4) → dg (f a) (ioAll (wipeS ρ1 vs)) fun ρ2 => dt ρ2 (fun b ρ3 => b = p a ∧ if b = true then de ρ3 k X0 else k0 ρ3) X0)
    (mono : ∀ (ρ : List SV) (k1 k2 : Bool → List SV → Prop), (∀ b ρ, k1 b ρ → k2 b ρ) → dt ρ k1 X0 → dt ρ k2 X0) (monog : ∀ (x : D) (ρ : List SV) (k1 k2 : List SV → Prop), (∀ ρ, k1 ρ → k2 ρ) → dg x ρ k1 → dg x ρ k2)
    (hd : Φ ((as.filter p).map g) ρ1) : dLc di dg dt de vs ρ Φ Ξ := by
  refine lc_of (as.map f) ρ1 hdi hno (by rw [List.length_map]; exact hlen) (fun i acc => acc = ((as.take i).filter p).map g) (by simp) (fun i x acc hx ha => ?_) (fun acc ha => ?_)
  · rw [List.getElem?_map] at hx
    cases e : as[i]? with
    | none => rw [e] at hx; cases hx
    | some a =>
      rw [e] at hx; cases hx
      subst ha
      have hi : i < as.length := (List.getElem?_eq_some_iff.mp e).1
      have et : as.take (i + 1) = as.take i ++ [a] := by rw [List.take_succ, e]; rfl
      by_cases hp : p a = true
      · have := hs a (fun y ρ4 => Same ρ4 (ioAll (wipeS ρ1 vs)) vs ∧ ((as.take i).filter p).map g ++ [y] = ((as.take (i + 1)).filter p).map g) (fun _ => False ∨ True) (List.mem_of_getElem? e) (fun ρ4 h4 => ⟨h4, by
          rw [et, List.filter_append, List.filter_cons, if_pos hp]; simp⟩) (fun _ _ => .inr trivial)
        refine monog _ _ _ _ (fun ρ2 h2 => mono _ _ _ (fun b ρ3 h3 => ?_) h2) this
        obtain ⟨rfl, h3⟩ := h3
        rw [hp, if_pos rfl] at h3 ⊢
        exact h3
      · have hp' : p a = false := by simpa using hp
        have := hs a (fun y ρ4 => True) (fun ρ3 => Same ρ3 (ioAll (wipeS ρ1 vs)) vs ∧ ((as.take i).filter p).map g = ((as.take (i + 1)).filter p).map g) (List.mem_of_getElem? e) (fun ρ4 h4 => trivial) (fun ρ4 h4 => ⟨h4, by
          rw [et, List.filter_append, List.filter_cons, if_neg hp]; simp⟩)
        refine monog _ _ _ _ (fun ρ2 h2 => mono _ _ _ (fun b ρ3 h3 => ?_) h2) this
        obtain ⟨rfl, h3⟩ := h3
        rw [hp', if_neg Bool.false_ne_true] at h3 ⊢
        exact h3
  · rw [List.length_map] at ha
    rw [List.take_length] at ha
    subst ha; exact hd
end DL
namespace DL
open PySem PySem.Spec PyProof.Rows L2 DLU
/-! ### repr of plain data -/
section
variable {X : Cx}
def rRepr (K : PySem.W.Frag) : List V → Hp → VK → Prop := fun xs H Q => ∃ (x : V) (d : PyData), xs = [x] ∧ Dp K H x d ∧ d.canLay0 = true ∧ d.depth ≤ 64 ∧ d.showable = true ∧ d.shown.length ≤ sizeLine ∧ Q (.str d.shown) H
theorem call_repr {k : Nat} (hr : Rm k X.A) : CallR X (.builtin "repr") (rRepr X.K) := by
  intro pins s σ H xs us Q J r h
  obtain ⟨x, d, rfl, hd, hl, hdep, hs, hz, q⟩ := h
  obtain ⟨u, e⟩ : ∃ u, us = [u] := by
    cases r with
    | cons _ rr => cases rr; exact ⟨_, rfl⟩
  subst e
  have ru : RelV x u := by cases r with
    | cons r0 _ => exact r0
  obtain ⟨as, rd⟩ := Dp.reads J d x u hd ru
  have give : ∀ h' t tk, (∀ b o, s.heap.get? b = some o → h'.get? b = some o) → EP X pins σ Q (.str d.shown t) { s with heap := h', toks := tk } := fun h' t tk k => ⟨.str d.shown, H, J.kept k, ⟨t, rfl⟩, q⟩
  cases rd with
  | none => exact PySem.P.repr_of_none (give s.heap _ _ fun _ _ z => z)
  | bool b =>
    refine PySem.P.repr_of_bool ?_
    have := give s.heap s.toks (s.toks + 1) fun _ _ z => z
    cases b <;> exact this
  | int i t => exact PySem.P.repr_of_int (by simpa [PyData.showable] using hs) (give s.heap _ _ fun _ _ z => z)
  | str z t => exact PySem.P.repr_of_str (give s.heap _ _ fun _ _ z => z) (by simpa only [PyData.shown] using hz)
  | list h1 h2 h3 h4 =>
    refine repr_of_reads' (.list h1 h2 h3 h4) hs (PyData.noDict_hsm (PyData.hasDict_of_canLay _ hl)) hr.gd (by have := hr.un; omega) (fun _ _ z => z) (fun h' t tk k => give h' t tk k) hz
  | tuple h1 h2 h3 h4 =>
    refine repr_of_reads' (.tuple h1 h2 h3 h4) hs (PyData.noDict_hsm (PyData.hasDict_of_canLay _ hl)) hr.gd (by have := hr.un; omega) (fun _ _ z => z) (fun h' t tk k => give h' t tk k) hz
  | dict _ _ _ _ _ => exact absurd hl (by simp [PyData.canLay0])
end
/-- the text of plain data -/
def D.txt (d : D) : Str := d.py.shown
def dRepr : List D → (D → Prop) → Prop := fun ds Φ => match ds with
  | [x] => x.lay = true ∧ x.py.showable = true ∧ x.py.shown.length ≤ sizeLine ∧ Φ (.str x.txt)
  | _ => False
end DL
namespace DL
open PySem PySem.Spec PyProof.Rows L2 DLU
theorem sim_repr {K : PySem.W.Frag} : SimC K (rRepr K) dRepr := by
  intro F H vs ds Φ Q e rl h k
  unfold dRepr at h
  split at h
  · rename_i x
    cases rl with
    | cons r0 r1 =>
      cases r1
      obtain ⟨h1, h2, h3, h4⟩ := h
      have hs := SeqAt.depth_of_shaped h1
      exact ⟨_, _, rfl, rep_dp e r0 (D.lay_can h1), D.lay_can h1, hs, h2, h3, k _ _ F H (.refl e) (.str _) h4⟩
  · exact h.elim
end DL
namespace DL
open PySem PySem.Spec PyProof.Rows L2 DLR
/-! ### more laws of readings, a word each -/
theorem isi_of {d : D} {n t : String} {b : Bool} (h : d.tyN = some t) (hn : n ∈ tyTs) (hb : isaN t n = b) (Φ : D → Prop) : dIsi [d, .ty n] Φ = Φ (.bl b) := by
  unfold dIsi
  dsimp only
  rw [h]
  dsimp only
  rw [hb]
  exact propext ⟨fun h => h.2, fun h => ⟨hn, h⟩⟩
theorem dIsi_bb (b : Bool) (Φ : D → Prop) : dIsi [.bl b, .ty "bool"] Φ = Φ (.bl true) := isi_of rfl (by decide) (by decide) Φ
theorem dIsi_bi (b : Bool) (Φ : D → Prop) : dIsi [.bl b, .ty "int"] Φ = Φ (.bl true) := isi_of rfl (by decide) (by decide) Φ
theorem dIsi_bt (b : Bool) (Φ : D → Prop) : dIsi [.bl b, .ty "tuple"] Φ = Φ (.bl false) := isi_of rfl (by decide) (by decide) Φ
theorem dIsi_it (b : Int) (Φ : D → Prop) : dIsi [.int b, .ty "tuple"] Φ = Φ (.bl false) := isi_of rfl (by decide) (by decide) Φ
theorem dIsi_il (b : Int) (Φ : D → Prop) : dIsi [.int b, .ty "list"] Φ = Φ (.bl false) := isi_of rfl (by decide) (by decide) Φ
theorem dIsi_is (b : Int) (Φ : D → Prop) : dIsi [.int b, .ty "str"] Φ = Φ (.bl false) := isi_of rfl (by decide) (by decide) Φ
theorem dIsi_nb (Φ : D → Prop) : dIsi [.non, .ty "bool"] Φ = Φ (.bl false) := isi_of rfl (by decide) (by decide) Φ
theorem dIsi_ni (Φ : D → Prop) : dIsi [.non, .ty "int"] Φ = Φ (.bl false) := isi_of rfl (by decide) (by decide) Φ
theorem dIsi_nt (Φ : D → Prop) : dIsi [.non, .ty "tuple"] Φ = Φ (.bl false) := isi_of rfl (by decide) (by decide) Φ
theorem dIsi_nl (Φ : D → Prop) : dIsi [.non, .ty "list"] Φ = Φ (.bl false) := isi_of rfl (by decide) (by decide) Φ
theorem dIsi_ti (xs : List D) (Φ : D → Prop) : dIsi [.tup xs, .ty "int"] Φ = Φ (.bl false) := isi_of rfl (by decide) (by decide) Φ
theorem dIsi_tb (xs : List D) (Φ : D → Prop) : dIsi [.tup xs, .ty "bool"] Φ = Φ (.bl false) := isi_of rfl (by decide) (by decide) Φ
theorem dIsi_tl (xs : List D) (Φ : D → Prop) : dIsi [.tup xs, .ty "list"] Φ = Φ (.bl false) := isi_of rfl (by decide) (by decide) Φ
theorem dIsi_ts (xs : List D) (Φ : D → Prop) : dIsi [.tup xs, .ty "str"] Φ = Φ (.bl false) := isi_of rfl (by decide) (by decide) Φ
theorem dIsi_li (xs : List D) (Φ : D → Prop) : dIsi [.lst xs, .ty "int"] Φ = Φ (.bl false) := isi_of rfl (by decide) (by decide) Φ
theorem dIsi_lb (xs : List D) (Φ : D → Prop) : dIsi [.lst xs, .ty "bool"] Φ = Φ (.bl false) := isi_of rfl (by decide) (by decide) Φ
theorem dIsi_lt (xs : List D) (Φ : D → Prop) : dIsi [.lst xs, .ty "tuple"] Φ = Φ (.bl false) := isi_of rfl (by decide) (by decide) Φ
theorem dIsi_ls (xs : List D) (Φ : D → Prop) : dIsi [.lst xs, .ty "str"] Φ = Φ (.bl false) := isi_of rfl (by decide) (by decide) Φ
theorem dIsi_si (x : Str) (Φ : D → Prop) : dIsi [.str x, .ty "int"] Φ = Φ (.bl false) := isi_of rfl (by decide) (by decide) Φ
theorem dIsi_sb (x : Str) (Φ : D → Prop) : dIsi [.str x, .ty "bool"] Φ = Φ (.bl false) := isi_of rfl (by decide) (by decide) Φ
theorem dIsi_st (x : Str) (Φ : D → Prop) : dIsi [.str x, .ty "tuple"] Φ = Φ (.bl false) := isi_of rfl (by decide) (by decide) Φ
theorem dIsi_ss (x : Str) (Φ : D → Prop) : dIsi [.str x, .ty "str"] Φ = Φ (.bl true) := isi_of rfl (by decide) (by decide) Φ
theorem eqv_bl (a b : Bool) : PyData.eqv (D.bl a).py (D.bl b).py = decide (a = b) := by cases a <;> cases b <;> rfl
theorem dEq_bl (a b : Bool) (Φ : D → Prop) : dEq (.bl a) (.bl b) Φ = Φ (.bl (decide (a = b))) := by
  have h1 : (D.bl a).lay = true := by show SeqAt.shaped (.bool a) = true; rfl
  have h2 : (D.bl b).lay = true := by show SeqAt.shaped (.bool b) = true; rfl
  unfold dEq
  rw [eqv_bl]
  exact propext ⟨fun h => h.2.2, fun h => ⟨h1, h2, h⟩⟩
theorem dNe_bl (a b : Bool) (Φ : D → Prop) : dNe (.bl a) (.bl b) Φ = Φ (.bl (decide (a ≠ b))) := by
  have h1 : (D.bl a).lay = true := by show SeqAt.shaped (.bool a) = true; rfl
  have h2 : (D.bl b).lay = true := by show SeqAt.shaped (.bool b) = true; rfl
  unfold dNe
  rw [eqv_bl]
  have : (!decide (a = b)) = decide (a ≠ b) := by cases a <;> cases b <;> rfl
  rw [this]
  exact propext ⟨fun h => h.2.2, fun h => ⟨h1, h2, h⟩⟩
theorem atI_neg1 {α : Type} {xs : List α} {x : α} (h : xs[xs.length - 1]? = some x) : atI xs (-1) = some x := by
  have hl := (List.getElem?_eq_some_iff.mp h).1
  unfold atI ixN
  rw [if_neg (by decide), if_pos (by omega), show ((-1 : Int) + (xs.length : Int)).toNat = xs.length - 1 by omega]
  exact h
end DL
namespace DLE
open PySem PySem.Spec PyProof.Rows PySem.W PySem.HandSPX PySem.Calls L2
/-- what the written part says of an error class at C that keeps f, of its __init__ at fI (st: its row) -/
structure ErrC (P : Program) (K : PySem.W.Frag) (mg : Str → Option Value) (f : Str) (C fI : Addr) (qual : Str) (st : Stmt) : Prop where
  cls : ∃ nm q N bs bm sn sub ab col dd k0 k1 k2 k3 k5, K.lookup C = some (excClassObj nm q C N bs bm true sn sub ab col dd k0 k1 k2 k3 k5 "ValueError.__new__") ∧ refsVE bm = true
  sa : findIn K (.ref C) "__setattr__" = some (some (.builtin "object.__setattr__"))
  noN : findIn K (.ref C) f = some none
  iC : findIn K (.ref C) "__init__" = some (some (.ref fI))
  tC : typeIn K (.ref fI) = some (.type "function")
  kC : keepIn K (.ref C) = true
  exC : subIn K (.ref C) (.type "BaseException") = some true
  veC : subIn K (.ref C) (.type "ValueError") = some true
  tyC : typeIn K (.ref C) = some (.type "type")
  sup : ks_superIn K C C "__init__" = some (some (.builtin "ValueError.__init__"))
  own : mroIn K C (.ref C) = some true
  fn : ∃ (oc : Value) (od : Option Addr) (doc pm : Value) (an : Option Addr) (cda : Addr) (ct : Value) (cc : Addr) (osl : Array (Option Value)),
    K.lookup fI = some ⟨oc, od, .func (ksFn "__init__" qual (defArgs st) (defBody st) (defScope st) .none .none doc pm an (.ref cda) ct cc), osl⟩ ∧ codeIn K (.ref cda) qual = true ∧
    (∃ ccl cdd vs ccs file tf, K.lookup cda = some ⟨ccl, cdd, .fields vs, ccs⟩ ∧ vs[2]? = some (.str file tf) ∧ ((P.main.file : Str) == file) = true) ∧
    ∃ cl cld csl, K.lookup cc = some ⟨cl, cld, .cell (some (.ref C)), csl⟩
/-- what stands in the module -/
structure ErrM (P : Program) (K : PySem.W.Frag) (mg : Str → Option Value) : Prop where
  sup : mg "super" = none
  top : (P.main.scope.names.lookup ("super" : Str)).isSome = false
  stat : nsIn K cStatics "thirdparty.any" = some none
/-- the row of __init__ -/
structure ErrS (f : Str) (st : Stmt) : Prop where
  head : ∃ ar, ((defArgs st).posonlyargs ++ (defArgs st).args).head? = some ar ∧ ar.arg = "self"
  body : ∃ q1 q2 q3 q4 q5 q6 q7 q8 q9 q10, (∀ env : Env, eval (.Call (.Attribute (.Call (.Name "super" q1) [] [] q2) "__init__" q3) [.Name f q4] [] q5) env = (do
      let ov ← attributeBase (.Call (.Name "super" q1) [] [] q2) "__init__" env (eval (.Call (.Name "super" q1) [] [] q2) env)
      standAt q3.atName
      let (g, first) ← holding [ov] (getMethod ov "__init__" (L2.plainOf (.Call (.Name "super" q1) [] [] q2) env))
      callWith q5 g first (backTo q5 (starEach [.Name f q4] env)) [])) ∧
    defBody st = [.Expr (.Call (.Attribute (.Call (.Name "super" q1) [] [] q2) "__init__" q3) [.Name f q4] [] q5) q6, .Assign [.Attribute (.Name "self" q7) f q8] (.Name f q9) q10]
  ks : (defScope st).names.lookup ("super" : Str) = some .globalImplicit
  kc : (defScope st).names.lookup ("__class__" : Str) = some .free
  kself : (defScope st).names.lookup ("self" : Str) = some .local
  kf : (defScope st).names.lookup f = some .local
  nocell : ∀ x ∈ (defScope st).names, x.2 ≠ .cell
  co : (defScope st).isCoroutine = false
  gen : (defScope st).isGenerator = false
  kind : (defScope st).kind = .function
  ne : (f == ("self" : Str)) = false
  nd : (f == ("__debug__" : Str)) = false
  bind : ∀ (qual : Str) (doc pm : Value) (an : Option Addr) (cdv ct : Value) (cc : Addr) (us : List Value), us.length = 2 → bindArgs (ksFn "__init__" qual (defArgs st) (defBody st) (defScope st) .none .none doc pm an cdv ct cc) ⟨us, []⟩ = pure ([("self" : Str), f].zip us)
section
variable {prog : Program} {w : World} {A : Around} {E : Value → Shared → Prop} {R : Result → Shared → Prop} {K : PySem.W.Frag} {mg mb : Str → Option Value}
/-- ValueError.__init__ bound to a fresh exception, called -/
theorem call_mw {h : Heap} {g : Array GenState} {d : Drawn} {t : Nat} {os : OsState} {nm q : Str} {C N : Addr} {bs bm : List Value} {hdct : Bool} {sn : List Str} {sub : List Value} {ab : Bool} {col : Option Bool} {dd : Option Addr} {k0 k1 k2 k3 k5 : Option Value} {u e t0 : Addr} {rest : List Value} {Q : Value → Shared → Prop}
    (hC : h.get? C = some (excClassObj nm q C N bs bm hdct sn sub ab col dd k0 k1 k2 k3 k5 "ValueError.__new__")) (hbm : refsVE bm = true) (he : h.get? e = some (excO C t0)) (hu : h.get? u = some (kxs_mw "ValueError.__init__" e)) (hrest : rest.length ≤ sizeLine)
    (hq : ∀ h' t1, (∀ b o, b ≠ e → h.get? b = some o → h'.get? b = some o) → h'.get? e = some (excO C t1) → Q .none ⟨h', g, d, t, os⟩) :
    wpAny (model prog w) A (call (.ref u) rest) Q E ⟨h, g, d, t, os⟩ := by
  refine wpAny_call (codeAny_of_tree ?_)
  show wpAny _ A.in1 (callAny (.ref u) ⟨rest, []⟩) _ _ _
  simp only [callAny]
  refine wpAny_bind (wpAny_load hu ?_)
  simp only [kxs_mw, show (Value.type "method-wrapper" == Value.type "method" || Value.type "method-wrapper" == Value.type "builtin_function_or_method" || Value.type "method-wrapper" == Value.type "method-wrapper") = true by decide, if_true]
  refine KFB.if_so (by decide) ?_
  refine wpAny_bind (check_bound_init F.excBase_ValueError.toExcCallFacts hC he rfl ?_)
  refine wpAny_bind (wpAny_pure (wpAny_pure ?_))
  refine ⟨plainId_quiet F.excBase_ValueError.init.plain _, codeAny_builtin F.excBase_ValueError.initEntry ?_⟩
  exact exc_init_tree (cls := .ref C) (t0 := t0) (dv := none) (c2 := .none) (c3 := .none) (b4 := .bool false) he hrest fun h' k e' _ => hq h' _ k e'
theorem lk_self {f : Str} {x v : Value} (h : (f == ("self" : Str)) = false) : ([(("self" : Str), x), (f, v)].reverse.lookup ("self" : Str)) = some x := by
  have h' : (("self" : Str) == f) = false := by rw [Bool.eq_false_iff] at h ⊢; intro z; apply h; rw [beq_iff_eq] at z ⊢; exact z.symm
  simp [List.lookup, h']
theorem lk_f {f : Str} {x v : Value} : ([(("self" : Str), x), (f, v)].reverse.lookup f) = some v := by simp [List.lookup]
/-- __init__ of an error class, walked: the exception keeps v -/
theorem err_init {s : Shared} {f : Str} {C fI x t0 : Addr} {qual : Str} {st : Stmt} {v : Value} {base : Heap} (T : ErrC prog K mg f C fI qual st) (S : ErrS f st) (M : ErrM prog K mg) (md : Mod K mg base) (kb : ∀ b o, base.get? b = some o → s.heap.get? b = some o)
    (hlim : s.heap.NoLimit) (hx : s.heap.get? x = some (excO C t0)) (hnx : K.lookup x = none) (hroom : A.depth < recursionLimit)
    (hq : ∀ h' tk dx t1, (∀ b o, b ≠ x → s.heap.get? b = some o → h'.get? b = some o) → s.heap.objs.size ≤ dx → dx ≠ x → h'.get? x = some { cls := .ref C, dict := some dx, data := .fields #[.ref t1, .none, .none, .none, .bool false, .none] } → h'.Ns1 dx (fun y => if y = f then some v else none) → R (.ok (.ret .none)) { s with heap := h', toks := tk }) :
    codeAny (model prog w) A (.call (.ref fI) ⟨[.ref x, v], []⟩) R s := by
  obtain ⟨oc, od, doc, pm, an, cda, ct, cc, osl, ho, hcd, ⟨ccl, cdd, vs, ccs, file, tf, hcode, hvs, hfile⟩, cl, cld, csl, hcell⟩ := T.fn
  obtain ⟨nm, q, N, bs, bm, sn, sub, ab, col, dd, k0, k1, k2, k3, k5, hC, hbm⟩ := T.cls
  obtain ⟨ar, har, has⟩ := S.head
  obtain ⟨q1, q2, q3, q4, q5, q6, q7, q8, q9, q10, hcall, hb⟩ := S.body
  have hcl : clsIn K C = some { name := nm, bases := bs, mro := .ref C :: bm, ns := N, qualname := q, hasDict := true, slotNames := sn, subclasses := sub, abstract := ab, collection := col, hasDel := false } := by unfold clsIn; rw [hC] <;> rfl
  have X : K.In s.heap := fun a o e => kb a o (md.kin a o e)
  obtain ⟨mb, hmb, hblt⟩ := md.blt
  refine ks_codeAny_call_defAt (fd := ksFn "__init__" qual (defArgs st) (defBody st) (defScope st) .none .none doc pm an (.ref cda) ct cc) (body := defBody st) (binds := [(("self" : Str), .ref x), (f, v)]) hroom (X _ _ ho) rfl hlim (codeRec_of X hcd) rfl
    (BindsTo.of_eq (S.bind qual doc pm an (.ref cda) ct cc [.ref x, v] rfl)) S.nocell (fun y hy => ?_) (fun h₁ hns hk => ?_) S.co S.gen S.kind
  · rw [List.mem_cons, List.mem_cons] at hy
    rcases hy with rfl | rfl | hy
    · exact S.kself
    · exact S.kf
    · cases hy
  have X₁ : K.In h₁ := fun a o e => hk a o (X a o e)
  have kb1 : ∀ b o, base.get? b = some o → h₁.get? b = some o := fun b o e => hk b o (kb b o e)
  have hx₁ := hk _ _ hx
  show _root_.PySem.wpAt (model prog w) (A.deeper (ksEnv qual (defScope st) s.heap.objs.size fI (.ref cda) cc)) (.func (defBody st) (ksEnv qual (defScope st) s.heap.objs.size fI (.ref cda) cc)) (execs (defBody st) (ksEnv qual (defScope st) s.heap.objs.size fI (.ref cda) cc)) _ _ _
  have e1 : execs (defBody st) (ksEnv qual (defScope st) s.heap.objs.size fI (.ref cda) cc) = execs [.Expr (.Call (.Attribute (.Call (.Name "super" q1) [] [] q2) "__init__" q3) [.Name f q4] [] q5) q6, .Assign [.Attribute (.Name "self" q7) f q8] (.Name f q9) q10] (ksEnv qual (defScope st) s.heap.objs.size fI (.ref cda) cc) := congrArg (fun b => execs b _) hb
  rw [e1]
  refine ks_wpAt_execs_cons (ks_wpAt_Expr_any (ks_wpAt_MethodCall ?_ (hcall _)) (by simp only [interactive, Env.blockKind, S.kind]; rfl) rfl)
  refine ks_wpAt_super_base (env := ksEnv qual (defScope st) s.heap.objs.size fI (.ref cda) cc) S.ks S.kc rfl rfl (X₁ _ _ ho) rfl har rfl (X₁ _ _ hcode) rfl hvs hfile M.top ?_
  refine ks_loadName_global S.kind S.ks (loadGlobal_builtin (env := ksEnv qual (defScope st) s.heap.objs.size fI (.ref cda) cc) (md.glob.keeps kb1) M.sup (hmb.keeps kb1) ((hblt _ (by decide)).trans (show bootBuiltins "super" = some (.type "super") by decide +kernel)) ⟨rfl, ?_⟩)
  refine wpAny_loadName_free S.kind S.kc rfl ⟨_, X₁ _ _ hcell, rfl⟩ ?_
  rw [has]
  refine wpAny_loadName_local S.kind S.kself hns (lk_self S.ne) ?_
  obtain ⟨oD, hD1, hD2⟩ : ∃ oD, h₁.get? C = some oD ∧ ∃ cd, oD.data = .cls cd := ⟨_, X₁ _ _ hC, _, rfl⟩
  obtain ⟨cdD, hD2⟩ := hD2
  refine ks_wpAny_isType_cls hD1 hD2 ⟨rfl, ?_⟩
  have I₁ : InstAt h₁ x (excO C t0) C none := ⟨hx₁, rfl, rfl, trivial⟩
  refine ks_wpAny_call_super hD1 hD2 hx₁ rfl (fun c e => by cases e) (looks_mroIn X₁ T.own) (fun h₂ hso k₂ => ?_)
  have X₂ : K.In h₂ := fun a o e => k₂ a o (X₁ a o e)
  have hx₂ := k₂ _ _ hx₁
  have I₂ : InstAt h₂ x (excO C t0) C none := ⟨hx₂, rfl, rfl, trivial⟩
  have hns₂ : h₂.Ns s.heap.objs.size _ := hns.keeps k₂
  have hsup := T.sup
  unfold ks_superIn at hsup
  rw [hcl] at hsup
  refine kxs_getMethod kxs_ValueError hso (looks_opaque X₂ M.stat) (l₀ := .ref C :: bm) (fun A Q E s k q => wpAny_bind ((looks_clsIn X₂ hcl) A _ E s k (wpAny_pure q))) rfl X₂ hsup (I₂.type.andThen (looks_subIn X₂ T.veC)) (ks_ne X₂ I₂ hcl) rfl ?_
  have k₃ : ∀ b o, h₂.get? b = some o → (h₂.push (kxs_mw "ValueError.__init__" x)).get? b = some o := fun b o e => Heap.get?_push_of_some _ e
  have hx₃ := k₃ _ _ hx₂
  have hns₃ := hns₂.keeps k₃
  have hu₃ : (h₂.push (kxs_mw "ValueError.__init__" x)).get? h₂.objs.size = some (kxs_mw "ValueError.__init__" x) := Heap.get?_push_at rfl rfl
  have X₃ : K.In (h₂.push (kxs_mw "ValueError.__init__" x)) := fun a o e => k₃ a o (X₂ a o e)
  refine kxs_callWith (i := "ValueError.__init__") (x := x) rfl (evalArgs_plain (args_cons (e := .Name f q4) (rest := []) (pos := q5) ?_ rfl))
  refine wpAny_Name (wpAny_loadName_local S.kind S.kf hns₃ lk_f ?_) S.nd
  refine args_nil ⟨hu₃, ?_⟩
  refine call_mw (X₃ _ _ hC) hbm hx₃ hu₃ (by show 1 ≤ sizeLine; rw [sizeLine_eq]; decide) fun h₄ t1 k₄ hx₄ => ?_
  have X₄ : K.In h₄ := fun a o e => k₄ a o (fun z => by rw [z, hnx] at e; cases e) (X₃ a o e)
  have hLx : s.heap.objs.size ≠ x := Nat.ne_of_gt (Heap.lt_size hx)
  have hns₄ := hns₃.at (h' := h₄) fun o e => k₄ _ _ hLx e
  refine ks_wpAt_execs_cons (ks_wpAt_Assign_Attr (wpAt_of_wpAny ?_) rfl)
  refine wpAny_Name (wpAny_loadName_local S.kind S.kf hns₄ lk_f ?_) S.nd
  refine wpAny_Name (wpAny_loadName_local S.kind S.kself hns₄ (lk_self S.ne) ?_) (by decide)
  refine set_plain X₄ (ox := excO C t1) (od := none) ⟨hx₄, rfl, rfl, trivial⟩ T.sa ?_
  refine exc_osa X₄ hx₄ hcl (show refsVE (.ref C :: bm) = true from hbm) rfl T.noN (fun h₅ tk₅ dx k₅ dn dne hx₅ hn₅ => ?_)
  refine wpAt_of_wpAny (wpAny_execs_nil ?_)
  exact hq h₅ tk₅ dx t1 (fun b o hb e => k₅ b o hb (k₄ b o hb (k₃ b o (k₂ b o (hk b o e))))) (Nat.le_trans (Nat.le_of_lt hns₄.lt) dn) dne hx₅ hn₅
end
end DLE
namespace DLE
open PySem PySem.Spec PyProof.Rows PySem.W PySem.HandSPX PySem.Calls L2 DLU
/-- an error made: e, its dict d -/
structure ErrMade (f : Str) (h h' : Heap) (e C d : Addr) (v : Value) : Prop where
  keep : ∀ b o, h.get? b = some o → h'.get? b = some o
  new : h.objs.size ≤ e
  obj : ∃ t1 : Addr, h'.get? e = some { cls := .ref C, dict := some d, data := .fields #[.ref t1, .none, .none, .none, .bool false, .none] }
  dbig : h.objs.size ≤ d
  dne : d ≠ e
  ns : h'.Ns1 d (fun y => if y = f then some v else none)
section
variable {prog : Program} {w : World} {A : Around} {R : Result → Shared → Prop} {s : Shared} {K : PySem.W.Frag} {mg : Str → Option Value} {f : Str} {C fI : Addr} {qual : Str} {st : Stmt} {base : Heap}
theorem err_made (T : ErrC prog K mg f C fI qual st) (S : ErrS f st) (M : ErrM prog K mg) (md : Mod K mg base) {v : Value} (kb : ∀ b o, base.get? b = some o → s.heap.get? b = some o) (hlim : s.heap.NoLimit) (hroom : A.depth + 1 < recursionLimit)
    (hq : ∀ h' tk e d, ErrMade f s.heap h' e C d v → R (.ok (.ret (.ref e))) { s with heap := h', toks := tk }) : codeAny (model prog w) A (.call (.ref C) ⟨[v], []⟩) R s := by
  obtain ⟨nm, q, N, bs, bm, sn, sub, ab, col, dd, k0, k1, k2, k3, k5, hC, hbm⟩ := T.cls
  obtain ⟨hp, g, dr, tk, os⟩ := s
  have X : K.In hp := fun a o e => kb a o (md.kin a o e)
  have k : ∀ b o, hp.get? b = some o → ((hp.push (kdv_tup [v])).push (excO C hp.objs.size)).get? b = some o := fun b o e => Heap.get?_push_of_some _ (Heap.get?_push_of_some _ e)
  have hget : ((hp.push (kdv_tup [v])).push (excO C hp.objs.size)).get? (hp.objs.size + 1) = some (excO C hp.objs.size) := by heap_get
  have hnx : K.lookup (hp.objs.size + 1) = none := by
    cases e : K.lookup (hp.objs.size + 1) with
    | none => rfl
    | some o => exact absurd (Nat.lt_of_succ_lt (Heap.lt_size (X _ _ e))) (Nat.lt_irrefl _)
  refine call_own F.excBase_ValueError (fun X => refsVE_contains X bm hbm) (X _ _ hC) (looks_findIn X T.iC) (fun self => bind_fn X self T.tC) (by show 1 ≤ sizeLine; rw [sizeLine_eq]; decide) ?_
  refine err_init (s := ⟨(hp.push (kdv_tup [v])).push (excO C hp.objs.size), g, dr, tk, os⟩) T S M md (fun b o e => k b o (kb b o e)) (hlim.keeps k) hget hnx ?_ fun h' tk' dx t1 k' dn dne hx hns => ?_
  · exact hroom
  · have old : ∀ b o, hp.get? b = some o → h'.get? b = some o := fun b o e => k' b o (Nat.ne_of_lt (Nat.lt_succ_of_lt (Heap.lt_size e))) (k b o e)
    have z : hp.objs.size + 1 + 1 ≤ dx := by
      have q := dn
      first
        | exact q
        | (rw [Heap.size_push, Heap.size_push] at q; exact q)
    exact ⟨rfl, hq h' tk' (hp.objs.size + 1) dx ⟨old, Nat.le_succ _, ⟨t1, hx⟩, Nat.le_trans (Nat.le_trans (Nat.le_succ _) (Nat.le_succ _)) z, dne, hns⟩⟩
end
theorem relO_one {g : Str} {v : V} {v' : Value} (r : RelV v v') (f : Str) : RelO (List.lookup f [(g, v)]) (if f = g then some v' else none) := by
  by_cases hw : f = g
  · subst hw
    rw [if_pos rfl, show List.lookup f [(f, v)] = some v by simp [List.lookup]]
    exact r
  · rw [if_neg hw, show List.lookup f [(g, v)] = none by simp [List.lookup, show (f == g) = false by simpa using hw]]
    trivial
section
variable {X : Cx} {C fI : Addr} {f qual x : Str} {st : Stmt}
/-- NM(e) -/
def tMkErr (f : Str) (C : Addr) (te : TE) : L2.St → Hp → XK → Prop := fun σ H Q => te σ H fun v H1 => ∀ d, H1 d = none → Q (.ref C) (some d) (upd H1 d (.xd [(f, v)]))
theorem pmk_err {a : Expr} {te : TE} {p pos : Pos} {k : Nat} (T : ErrC X.prog X.K X.mg f C fI qual st) (S : ErrS f st) (M : ErrM X.prog X.K X.mg) (gC : X.mg x = some (.ref C)) (hr : Rm k X.A) (ha : PE X a te) (hg : Gl X x := by rfl) (hdb : (x == ("__debug__" : Str)) = false := by decide)
    (he : starEach (a :: []) X.env = (false, eval a X.env) :: starEach [] X.env := by rfl) (hpl : (backTo pos (starEach [] X.env)).any (·.1) = false := by rfl) :
    L2N.PMk X (.Call (.Name x p) [a] [] pos) (tMkErr f C te) := by
  intro pins s σ H Q I h
  refine wpAny_Call_Name_kw (ld_glob I hg gC ?_ hdb)
  refine PySem.W.callWith_K (h₀ := X.base) I.ok.mod.kin T.kC (args_cons (thn (ha.run pins s σ H _ I h) fun v' s1 hh => args_nil ?_) he) he hpl
  obtain ⟨v, H1, I1, rv, q1⟩ := hh
  refine ⟨I1.kIn, ?_⟩
  show wpAny _ _ (call (.ref C) [v']) _ _ _
  have hlim := I1.nolimit
  have kb := I1.bk
  obtain ⟨hp, g, dr, tk, os⟩ := s1
  refine wpAny_call (err_made T S M I1.ok.mod kb hlim (by have := hr.dp; omega) fun h' tk' e d M => ?_)
  show L2N.MkP X pins σ Q (.ref e) ⟨h', g, dr, tk', os⟩
  obtain ⟨t1, hoe⟩ := M.obj
  have hns := M.ns
  obtain ⟨G', g1, g2⟩ := restrict h' fun b => decide (b ≠ e)
  have gk : ∀ b, b ≠ e → G'.get? b = h'.get? b := fun b hb => g1 b (decide_eq_true hb)
  have ge : G'.get? e = none := g2 e (by simp)
  have old : ∀ b o, hp.get? b = some o → G'.get? b = some o := fun b o q => (gk b (Nat.ne_of_lt (Nat.lt_of_lt_of_le (Heap.lt_size q) M.new))).trans (M.keep b o q)
  have ob : ObjOk X.prog X.w (upd H1 d (.xd [(f, v)])) G' d (.xd [(f, v)]) := ⟨_, hns.at (fun o q => (gk d M.dne).trans q), fun g => relO_one rv g⟩
  have J : Inv X pins σ (upd H1 d (.xd [(f, v)])) ⟨G', g, dr, tk', os⟩ := I1.laid (t' := tk') old M.dbig ob
  refine ⟨e, _, _, ⟨G', g, dr, tk', os⟩, _, .ref C, some d, rfl, J, fun b o q => ?_, ge, hoe, ⟨rfl, rfl, fun vs z => by injection z with z; subst z; rfl⟩, rfl, rfl, ?_, rfl, I1.bare, raises_own T.exC T.tyC, q1 d (I1.hok.fresh M.dbig)⟩
  · by_cases hb : b = e
    · have q' : G'.get? b = some o := q
      rw [hb, ge] at q'; cases q'
    · exact (gk b hb).symm.trans q
  · rw [upd_ne (Ne.symm M.dne)]
    exact I1.hok.fresh M.new
end
end DLE
namespace DL
open PySem PySem.Spec PyProof.Rows L2 DLE DLU
section
variable {X : Cx} {W : WX} {C fI : Addr} {f qual x : Str} {st : Stmt}
/-- raise NM(e) -/
def dRaise (nm : Str) (de : DEv) : DSv := fun En ρ => de ρ (fun y ρ1 => En.ex nm y ρ1) En.ex
theorem ds_raise {nm : Str} {a : Expr} {te : TE} {de : DEv} {p pos pos' : Pos} {k : Nat} (T : ErrC X.prog X.K X.mg f C fI qual st) (S : ErrS f st) (M : ErrM X.prog X.K X.mg) (hnm : C = He.ga X.K nm) (hat : f = attrOf nm) (gC : X.mg x = some (.ref C)) (hr : Rm k X.A) (mo : Mo X false) (tk : L2N.Takes X W)
    (ha : DE X W a te de) (hg : Gl X x := by rfl) (hdb : (x == ("__debug__" : Str)) = false := by decide)
    (he : starEach (a :: []) X.env = (false, eval a X.env) :: starEach [] X.env := by rfl) (hpl : (backTo pos (starEach [] X.env)).any (·.1) = false := by rfl) :
    DS X W (.Raise (some (.Call (.Name x p) [a] [] pos)) none pos') (fun _ σ H => tMkErr f C te σ H fun cls d H' => W cls d σ H') (dRaise nm de) := by
  refine ⟨L2N.ps_raise mo.c tk (pmk_err T S M gC hr ha.pe hg hdb he hpl), fun Cc F H σ ρ En D hK J h E => ?_⟩
  refine ha.sim Cc F H σ ρ _ _ _ hK J h (fun v d ρ1 F1 H1 J1 e1 r1 q1 => fun dd hd => ?_) (E.ex σ)
  have g := Grow.new (o := HO.xd [(f, v)]) J1.fh hd
  refine E.ex σ nm d ρ1 (.ref C) (some dd) (upd F1 dd (.xd [(f, v)])) _ (J1.grow g) (e1.trans g.ff) ?_ q1
  rw [← hK] at hnm
  refine ⟨by rw [hnm], dd, v, rfl, ?_, ?_, hK ▸ r1.mono g.ff⟩
  · rw [upd_same, ← hat]
  · rw [upd_same, ← hat]
end
end DL
namespace DL
open PySem PySem.Spec PyProof.Rows L2 DLE DLU
/-- is an error of the class nm one of the class cn -/
def subN (nm cn : Str) : Bool := nm == cn || cn == ("SlotError" : Str) || cn == ("ValueError" : Str)
theorem ExcRep.f {K : PySem.W.Frag} {F H : Hp} {nm : Str} {d : D} {cls : Value} {dx : Option Addr} (h : ExcRep K F H nm d cls dx) : ExcF K F nm d cls dx := by
  obtain ⟨h1, a, v, h2, _, h3, h4⟩ := h
  exact ⟨h1, a, v, h2, h3, h4⟩
theorem ExcF.rep {K : PySem.W.Frag} {F H : Hp} {nm : Str} {d : D} {cls : Value} {dx : Option Addr} (h : ExcF K F nm d cls dx) (e : Ext F H) : ExcRep K F H nm d cls dx := by
  obtain ⟨h1, a, v, h2, h3, h4⟩ := h
  exact ⟨h1, a, v, h2, e _ _ h3, h3, h4⟩
section
variable {C : Cc} {F H : Hp} {σ : L2.St} {ρ : List SV}
/-- a slot gets what is nobody's own -/
theorem I.setN (J : I C F H σ ρ) {i : Nat} {o : Option V} {s0 sv0 : SV} (hi : ρ[i]? = some s0) (ni : s0.io = false) (no : sv0.own = false) (r : Slot C F H i o sv0) : I C F H (σ.set i o) (ρ.set i sv0) := by
  have hl : i < ρ.length := (List.getElem?_eq_some_iff.mp hi).1
  have hs : i < σ.length := by rw [J.len]; exact hl
  refine ⟨J.f0, J.fh, J.fr, J.kp, by simpa using J.len, fun j sv e => ?_, fun j k a sv sv' e1 e2 o1 o2 q1 q2 => ?_, fun j a h => ?_⟩
  · rw [getD_set hs]
    by_cases z : i = j
    · subst z
      rw [List.getElem?_set_self hl] at e
      cases e
      rw [if_pos rfl]
      exact r
    · rw [List.getElem?_set_ne z] at e
      rw [if_neg z]
      exact J.sl j sv e
  · have n1 : i ≠ j := fun z => by subst z; rw [List.getElem?_set_self hl] at e1; cases e1; rw [no] at o1; cases o1
    have n2 : i ≠ k := fun z => by subst z; rw [List.getElem?_set_self hl] at e2; cases e2; rw [no] at o2; cases o2
    rw [List.getElem?_set_ne n1] at e1
    rw [List.getElem?_set_ne n2] at e2
    rw [getD_set hs, if_neg n1] at q1
    rw [getD_set hs, if_neg n2] at q2
    exact J.ap j k a sv sv' e1 e2 o1 o2 q1 q2
  · obtain ⟨sv, e, q⟩ := J.ios j a h
    have n1 : i ≠ j := fun z => by subst z; rw [hi] at e; cases e; rw [ni] at q; cases q
    exact ⟨sv, by rw [List.getElem?_set_ne n1]; exact e, q⟩
end
/-- no error leaves -/
def WNo : WX := fun _ _ _ _ => False
/-- what an except clause that names the class cn (c) tells of the errors ns -/
def ExmOk (K : PySem.W.Frag) (ns : List Str) (cn : Str) (c : Value) : Prop := ∀ nm, nm ∈ ns → PySem.W.exmOne K (.ref (He.ga K nm)) c = some (subN nm cn)
/-- slot i goes -/
def dWipe (i : Nat) (ρ : List SV) (k : List SV → Prop) : Prop := dStore i .un ρ k
theorem dWipe_ok {C : Cc} {F H : Hp} {σ : L2.St} {ρ : List SV} {i : Nat} {k : List SV → Prop} (J : I C F H σ ρ) (h : dWipe i ρ k) : I C F H (σ.set i none) (ρ.set i .un) ∧ k (ρ.set i .un) := by
  obtain ⟨s, e, ni, z⟩ := dStore_of h
  exact ⟨J.setN e ni rfl trivial, z⟩
/-- try: body / except cn as (slot i): suite -/
def dTryAs (ns : List Str) (cn : Str) (i : Nat) (db : DSv) (dsu : Addr → Value → Option Addr → DSv) : DSv := fun En ρ => db { En with ex := fun nm d ρ1 => nm ∈ ns ∧ (if subN nm cn = true then
    ∀ a cls dx, dStore i (.ex a cls dx nm d) ρ1 fun ρ2 => dsu a cls dx { En with nx := fun ρ3 => dWipe i ρ3 En.nx, bk := fun ρ3 => dWipe i ρ3 En.bk, ct := fun ρ3 => dWipe i ρ3 En.ct, ex := fun _ _ _ => False } ρ2
  else En.ex nm d ρ1) } ρ
/-- a context in which a try's body stands: one is there -/
theorem try_xe {X : Cx} {W : WX} (hs : X.stack = X.env :: X.outer) (hf : X.env.frame = some X.env.locals) : ∃ xe, L2N.Takes (X.tr [] xe) W ∧ PassesOwn (model X.prog X.w) X.A X.env xe := by
  refine ⟨fun e s' => wpAny (model X.prog X.w) X.A (noteFrame e X.env) (fun _ s2 => wpAny (model X.prog X.w) X.A (setFlight e none) (fun _ _ => True) X.xe s2) X.xe s', fun u s' xx => ?_, PassesOwn.looking⟩
  obtain ⟨a, B, sI, pins', σ', H', cls, d, rfl, J', nb, up, sky, _⟩ := xx
  have sky' : Sky B (X.env :: X.outer) a (L2N.Zn cls d) X.env.locals s'.heap := by rw [← hs]; exact sky
  have hfr : X.A.frames = some (X.env :: X.outer) := by have z : X.A.frames = some X.stack := J'.ok.frames; rw [z, hs]
  show wpAny (model X.prog X.w) X.A (noteFrame (.ref a) X.env) _ _ _
  refine L2N.Sky.land L2N.Zn.steady hfr hf sky' fun h3 fl3 up3 => ?_
  exact trivial
section
variable {X : Cx} {W : WX} {ns : List Str} {cn : Str} {x n : Str} {c : Value} {i : Nat} {body suite : List Stmt} {b₀ : Stmt} {np pos pos' : Pos} {tb : WX → TS} {ts : Addr → Value → Option Addr → TS} {db : DSv} {dsu : Addr → Value → Option Addr → DSv}
theorem ds_try_as (hs : X.stack = X.env :: X.outer) (hf : X.env.frame = some X.env.locals) (hN : X.N.Nodup) (hi : X.N[i]? = some n) (hln : X.env.kindOf n = some .local) (hc : Names X x c) (hx : ExmOk X.K ns cn c) (tk : L2N.Takes X W)
    (hb : ∀ (W' : WX) (pn : List (Addr × Obj)) (xe : Value → Shared → Prop), L2N.Takes (X.tr pn xe) W' → PassesOwn (model X.prog X.w) X.A X.env xe → DSs (X.tr pn xe) W' body (tb W') db)
    (hsu : ∀ (a : Addr) (oe : Obj) (cls : Value) (d : Option Addr) (pn : List (Addr × Obj)), L2N.Zn cls d oe → (∃ vs, oe.data = .fields vs) → DSs (X.suite a ((a, oe) :: pn)) WNo (b₀ :: suite) (ts a cls d) (dsu a cls d)) :
    DS X W (.Try body [.ExceptHandler (some (.Name x np)) (some n) (b₀ :: suite) pos'] [] [] pos) (fun D σ H => tb (wAs X.K c i ts W D) D σ H) (dTryAs ns cn i db dsu) := by
  refine ⟨L2N.ps_try_as hs hf hN hi hln hc tk (fun W' pn xe t p => (hb W' pn xe t p).ps) (fun a oe cls d pn z f => (hsu a oe cls d pn z f).ps), fun C F H σ ρ En D hK J h E => ?_⟩
  -- the suite's reading, whatever the object
  have su : ∀ a cls d, SimS X.K WNo (ts a cls d) (dsu a cls d) := fun a cls d => (hsu a ⟨cls, d, .fields #[.none, .none, .none], #[]⟩ cls d [] ⟨rfl, rfl, fun vs z => by injection z with z; subst z; rfl⟩ ⟨_, rfl⟩).sim
  obtain ⟨xe, t1, t2⟩ := try_xe (W := wAs X.K c i ts W D) hs hf
  have bo : SimS X.K (wAs X.K c i ts W D) (tb (wAs X.K c i ts W D)) db := (hb (wAs X.K c i ts W D) [] xe t1 t2).sim
  refine bo C F H σ ρ _ D hK J h ⟨E.nx, E.rt, E.bk, E.ct, fun σ' => ?_, E.ro⟩
  intro nm d ρ1 cls dx F1 H1 J1 e1 x1 q
  obtain ⟨hnm, q⟩ := q
  have e0 : cls = .ref (He.ga X.K nm) := by rw [← hK]; exact x1.1
  refine ⟨subN nm cn, by rw [e0]; exact hx nm hnm, fun hy a na => ?_, fun hn => ?_⟩
  · rw [if_pos hy] at q
    obtain ⟨s, es, ni, z⟩ := dStore_of (q a cls dx)
    have J2 : I C F1 H1 (σ'.set i (some (.ref a))) (ρ1.set i (.ex a cls dx nm d)) := J1.setN es ni rfl ⟨rfl, x1.f⟩
    refine su a cls dx C F1 H1 _ _ _ _ hK J2 z ⟨fun σ2 ρ2 F2 H2 J3 e2 w => ?_, fun v d σ2 ρ2 F2 H2 J3 e2 r w => E.rt v d σ2 ρ2 F2 H2 J3 (e1.trans e2) r w, fun σ2 ρ2 F2 H2 J3 e2 w => ?_, fun σ2 ρ2 F2 H2 J3 e2 w => ?_, fun _ _ _ _ _ _ _ _ _ _ _ w => w.elim, fun p vs xs σ2 ρ2 F2 H2 J3 e2 T hp rl w => E.ro p vs xs σ2 ρ2 F2 H2 J3 (e1.trans e2) T hp rl w⟩
    · exact E.nx _ _ F2 H2 (dWipe_ok J3 w).1 (e1.trans e2) (dWipe_ok J3 w).2
    · exact E.bk _ _ F2 H2 (dWipe_ok J3 w).1 (e1.trans e2) (dWipe_ok J3 w).2
    · exact E.ct _ _ F2 H2 (dWipe_ok J3 w).1 (e1.trans e2) (dWipe_ok J3 w).2
  · rw [if_neg (by rw [hn]; decide)] at q
    exact E.ex σ' nm d ρ1 cls dx F1 H1 J1 e1 x1 q
end
end DL
namespace DL
open PySem PySem.Spec PyProof.Rows L2 DLE DLU
/-- what an error class at C must say, so that its errors are asked -/
structure ErrAsk (K : PySem.W.Frag) (C : Addr) (f : Str) : Prop where
  cl : (PySem.W.clsIn K C).isSome = true
  ga : PySem.W.findIn K (.ref C) "__getattribute__" = some (some (.builtin "BaseException.__getattribute__"))
  gg : PySem.W.findIn K (.ref C) "__getattr__" = some none
  exC : PySem.W.subIn K (.ref C) (.type "BaseException") = some true
  hdC : PySem.W.hasDictIn K C = true
  noN : PySem.W.findIn K (.ref C) f = some none
  ha : PySem.W.findIn K (.ref C) "__class__" = some (some (.builtin "object.__class__"))
  hn : PySem.W.specialIn K (.builtin "object.__class__") "__get__" = some (some (.builtin "getset_descriptor.__get__"))
  ht : PySem.W.takesIn K (.builtin "object.__class__") = some true
  hm : PySem.W.mroIn K C (.type "object") = some true
def AskOk (K : PySem.W.Frag) (ns : List Str) : Prop := ∀ nm, nm ∈ ns → ErrAsk K (He.ga K nm) (attrOf nm)
/-- an error held by the context: at a, of the class cls, its dict dx -/
def Held (X : Cx) (a : Addr) (cls : Value) (dx : Option Addr) : Prop := ∃ oe, (a, oe) ∈ X.pn ∧ L2N.Zn cls dx oe ∧ ∃ vs, oe.data = .fields vs
theorem Held.inst {X : Cx} {a : Addr} {nm : Str} {dd : Addr} {pins : List (Addr × Obj)} {σ : L2.St} {H : Hp} {s : Shared} {fs : List (Str × V)} (h : Held X a (.ref (He.ga X.K nm)) (some dd)) (I : Inv X pins σ H s) (e : H dd = some (.xd fs)) :
    ∃ oe od, PySem.W.InstAt s.heap a oe (He.ga X.K nm) (some od) ∧ ∀ f v, fs.lookup f = some v → ∃ u, RelV v u ∧ PySem.W.lookIn f od = some (some u) := by
  obtain ⟨oe, hp, hz, vs, hd⟩ := h
  obtain ⟨ha, _⟩ := I.pin (a, oe) (List.mem_append_left _ hp)
  have hx : ObjOk X.prog X.w H s.heap dd (.xd fs) := I.hok dd _ e
  obtain ⟨mA, hns, hr⟩ := hx
  obtain ⟨od, ho, hl⟩ := lookIn_ns hns
  refine ⟨oe, od, ⟨ha, hz.1, by unfold PySem.W.notCls; rw [hd] <;> rfl, by rw [hz.2.1]; exact ho⟩, fun f v l => ?_⟩
  obtain ⟨u, hu, ru⟩ := RelO.some_of (v := v) (o := mA f) (by rw [← l]; exact hr f)
  exact ⟨u, ru, by rw [hl, hu]⟩
section
variable {X : Cx} {W : WX} {a : Addr} {cls : Value} {dx : Option Addr} {i : Nat} {ns : List Str}
/-- the error in slot i, its attribute f -/
def tXfN (ns : List Str) (K : PySem.W.Frag) (a : Addr) (cls : Value) (dx : Option Addr) (f : Str) (te : TE) : TE := fun σ H Q => te σ H fun x H1 => x = .ref a ∧ ∃ nm, nm ∈ ns ∧ f = attrOf nm ∧ cls = .ref (He.ga K nm) ∧ ∃ (dd : Addr) (fs : List (Str × V)) (v : V), dx = some dd ∧ H1 dd = some (.xd fs) ∧ fs.lookup f = some v ∧ Q v H1
theorem pe_xfN {e : Expr} {te : TE} {pos : Pos} {n : Str} (T : AskOk X.K ns) (hd : Held X a cls dx) (he : PE X e te) (hb : attributeBase e n X.env (eval e X.env) = eval e X.env := by rfl) : PE X (.Attribute e n pos) (tXfN ns X.K a cls dx n te) := by
  refine ⟨fun pins s σ H Q I h => ?_⟩
  refine attr_of hb (thn (he.run pins s σ H _ I h) fun u s1 hh => ?_)
  obtain ⟨x, H1, I1, rx, ex, nm, hnm, en, ec, dd, fs, v, ed, ea, l, q⟩ := hh
  subst ex ec ed
  obtain rfl : u = Value.ref a := rx
  obtain ⟨oe, od, J, hl⟩ := hd.inst I1 ea
  obtain ⟨w, ru, hw⟩ := hl n v l
  have t := T nm hnm
  exact HandSPX.exc_get I1.kIn J t.ga t.gg t.exC (PySem.W.findObj_own t.hdC (by rw [en]; exact t.noN) rfl hw) (handed_of ru) ⟨v, H1, I1.tok _, ru, q⟩
def dXf (ns : List Str) (a : Addr) (cls : Value) (dx : Option Addr) (i : Nat) (f : Str) : DEv := fun ρ Φ _ => match ρ[i]? with
  | some (.ex a' cls' dx' nm x) => a' = a ∧ cls' = cls ∧ dx' = dx ∧ nm ∈ ns ∧ f = attrOf nm ∧ Φ x ρ
  | _ => False
theorem de_xf (i : Nat) {x n : Str} {p pos : Pos} (T : AskOk X.K ns) (hd : Held X a cls dx) (hN : X.N[i]? = some x := by rfl) (hv : Vis X.env.scope x := by first | exact Or.inl rfl | exact Or.inr (Or.inl rfl) | exact Or.inr (Or.inr rfl)) (hdb : (x == ("__debug__" : Str)) = false := by decide) (hcd : (x == ("__classdict__" : Str)) = false := by decide)
    (hb : attributeBase (.Name x p) n X.env (eval (.Name x p) X.env) = eval (.Name x p) X.env := by rfl) : DE X W (.Attribute (.Name x p) n pos) (tXfN ns X.K a cls dx n (tVar i)) (dXf ns a cls dx i n) := by
  refine ⟨pe_xfN T hd (pe_var hN hv hdb hcd) hb, fun C F H σ ρ Φ Ξ Q hK J h k _ => ?_⟩
  unfold dXf at h
  split at h
  · rename_i a' cls' dx' nm y e
    obtain ⟨rfl, rfl, rfl, hnm, en, q⟩ := h
    obtain ⟨e1, e2, dd, v, e3, e4, r⟩ := J.sl i _ e
    have es : σ[i]? = some (some (.ref a')) := by
      rw [List.getD_eq_getElem?_getD] at e1
      cases w : σ[i]? with
      | none => rw [w] at e1; cases e1
      | some o => rw [w] at e1; exact congrArg some e1
    refine ⟨.ref a', es, rfl, nm, hnm, en, by rw [← hK]; exact e2, dd, _, v, e3, J.fh _ _ e4, by simp [List.lookup, en], k v y ρ F H J (.refl F) (by rw [← hK]; exact r) q⟩
  · exact h.elim
/-! isinstance(e, the class cn) -/
def rIsN (ns : List Str) (K : PySem.W.Frag) (a : Addr) (cls : Value) (dx : Option Addr) : List V → Hp → VK → Prop := fun xs H Q => ∃ (nm : Str) (dd : Addr) (fs : List (Str × V)) (c : V) (cv : Value) (b : Bool), xs = [.ref a, c] ∧ (∀ u, RelV c u → u = cv) ∧ nm ∈ ns ∧ cls = .ref (He.ga K nm) ∧ dx = some dd ∧ H dd = some (.xd fs) ∧ PySem.W.kitOne K (.ref (He.ga K nm)) cv = some b ∧ Q (.bl b) H
theorem call_isN (T : AskOk X.K ns) (hd : Held X a cls dx) : CallR X (.builtin "isinstance") (rIsN ns X.K a cls dx) := by
  intro pins s σ H xs us Q I r h
  obtain ⟨nm, dd, fs, c, cv, b, rfl, hcv, hnm, rfl, rfl, ea, e, q⟩ := h
  cases r with
  | cons rx rr =>
    cases rr with
    | cons rt rr =>
      cases rr
      cases rx
      have ec := hcv _ rt
      subst ec
      obtain ⟨oe, od, J, _⟩ := hd.inst I ea
      have t := T nm hnm
      exact PySem.W.kia_one (PySem.W.kitx_exc t.cl t.ga t.gg t.exC t.ha t.hn t.ht t.hm) I.kIn J e (fun z => nomatch z) fun tk => ⟨.bl b, H, I.kept (t' := tk) fun _ _ z => z, rfl, q⟩
def dIsE (ns : List Str) (cn : Str) (a : Addr) (cls : Value) (dx : Option Addr) (i : Nat) : DEv := fun ρ Φ _ => match ρ[i]? with
  | some (.ex a' cls' dx' nm _) => a' = a ∧ cls' = cls ∧ dx' = dx ∧ nm ∈ ns ∧ Φ (.bl (subN nm cn)) ρ
  | _ => False
/-- what isinstance tells of the errors ns and the class cn (cv) -/
def KitOk (K : PySem.W.Frag) (ns : List Str) (cn : Str) (cv : Value) : Prop := ∀ nm, nm ∈ ns → PySem.W.kitOne K (.ref (He.ga K nm)) cv = some (subN nm cn)
theorem de_isE (i : Nat) {x y cn : Str} {c : V} {cv : Value} {p p1 p2 pos : Pos} (T : AskOk X.K ns) (hd : Held X a cls dx) (hcv : ∀ u, RelV c u → u = cv) (hc : PE X (.Name y p2) (tC c)) (hk : KitOk X.K ns cn cv) (hg : Gl X "isinstance") (hm : X.mg "isinstance" = none)
    (hN : X.N[i]? = some x := by rfl) (hv : Vis X.env.scope x := by first | exact Or.inl rfl | exact Or.inr (Or.inl rfl) | exact Or.inr (Or.inr rfl)) (hdb : (x == ("__debug__" : Str)) = false := by decide) (hcd : (x == ("__classdict__" : Str)) = false := by decide)
    (he : starEach [.Name x p1, .Name y p2] X.env = (false, eval (.Name x p1) X.env) :: starEach [.Name y p2] X.env := by rfl) (he2 : starEach [.Name y p2] X.env = (false, eval (.Name y p2) X.env) :: starEach [] X.env := by rfl) (hpl : (backTo pos (starEach [.Name y p2] X.env)).any (·.1) = false := by rfl) :
    DE X W (.Call (.Name "isinstance" p) [.Name x p1, .Name y p2] [] pos) (tCB (rIsN ns X.K a cls dx) (tCons (tVar i) (tCons (tC c) tNil))) (dIsE ns cn a cls dx i) := by
  refine ⟨pe_callB (call_isN T hd) hg hm (by rfl) (pa_cons (pe_var hN hv hdb hcd) (pa_cons hc pa_nil he2) he) (by decide) (by decide) he hpl, fun C F H σ ρ Φ Ξ Q hK J h k _ => ?_⟩
  unfold dIsE at h
  split at h
  · rename_i a' cls' dx' nm y e
    obtain ⟨rfl, rfl, rfl, hnm, q⟩ := h
    obtain ⟨e1, e2, dd, v, e3, e4, r⟩ := J.sl i _ e
    have es : σ[i]? = some (some (.ref a')) := by
      rw [List.getD_eq_getElem?_getD] at e1
      cases w : σ[i]? with
      | none => rw [w] at e1; cases e1
      | some o => rw [w] at e1; exact congrArg some e1
    exact ⟨.ref a', es, nm, dd, _, c, cv, _, rfl, hcv, hnm, by rw [← hK]; exact e2, e3, J.fh _ _ e4, hk nm hnm, k (.bl _) _ ρ F H J (.refl F) (.bl _) q⟩
  · exact h.elim
end
end DL
namespace DLE
open PySem PySem.Spec PyProof.Rows PySem.W PySem.HandSPX PySem.Calls L2
/-- an error class stands at C -/
def clsVB (K : PySem.W.Frag) (C : Addr) : Bool := match K.lookup C with
  | some ⟨.type "type", _, .cls cd, sl⟩ => (match cd.mro, sl.toList with
    | .ref C' :: bm, [_, _, _, _, some (.builtin n), _] => (C' == C) && ((n == "ValueError.__new__") && (!cd.hasDel && (cd.hasDict && refsVE bm)))
    | _, _ => false)
  | _ => false
theorem clsVB_ok {K : PySem.W.Frag} {C : Addr} (q : clsVB K C = true) : ∃ nm q N bs bm sn sub ab col dd k0 k1 k2 k3 k5, K.lookup C = some (excClassObj nm q C N bs bm true sn sub ab col dd k0 k1 k2 k3 k5 "ValueError.__new__") ∧ refsVE bm = true := by
  unfold clsVB at q
  split at q
  · rename_i dd cd sl ho
    split at q
    · rename_i C' bm k0 k1 k2 k3 n k5 hm hs
      simp only [Bool.and_eq_true, beq_iff_eq, Bool.not_eq_true'] at q
      obtain ⟨rfl, rfl, hdel, hdc, ht⟩ := q
      obtain ⟨nm, bs, mro, ns, qn, hd, sn, sub, ab, col, del⟩ := cd
      dsimp only at hm hdel hdc
      subst hm hdel hdc
      have hsl : sl = #[k0, k1, k2, k3, some (.builtin "ValueError.__new__"), k5] := by
        obtain ⟨l⟩ := sl
        simp only at hs
        rw [hs]
      subst hsl
      exact ⟨nm, qn, ns, bs, bm, sn, sub, ab, col, dd, k0, k1, k2, k3, k5, ho, ht⟩
    · cases q
  · cases q
/-- the row of an error class's __init__, as the head sees it -/
abbrev FnE : Type := Option (Str × Str × Arguments × FuncBody × Scope × Addr × List Str × Addr)
def fnE (K : PySem.W.Frag) (f : Addr) : FnE := match K.lookup f with
  | some ⟨_, _, .func fd, _⟩ => some (fd.name, fd.qualname, fd.params, fd.body, fd.scope, fd.globals, fd.closure.map (·.1), fd.builtins)
  | _ => none
def cellB (K : PySem.W.Frag) (C : Addr) : List (Str × Addr) → Bool
  | [(_, cc)] => (match K.lookup cc with
    | some ⟨_, _, .cell (some (.ref C')), _⟩ => C' == C
    | _ => false)
  | _ => false
def fileB (K : PySem.W.Frag) (file : Str) : Value → Bool
  | .ref c => (match K.lookup c with
    | some ⟨_, _, .fields vs, _⟩ => (match (vs[2]? : Option Value) with
      | some (Value.str f _) => file == f
      | _ => false)
    | _ => false)
  | _ => false
def fnEB (K : PySem.W.Frag) (C f : Addr) (qual file : Str) : Bool := match K.lookup f with
  | some ⟨_, _, .func fd, _⟩ => decide (fd.defaults = .none) && (decide (fd.kwdefaults = .none) && (PySem.W.codeIn K fd.code qual && (fileB K file fd.code && cellB K C fd.closure)))
  | _ => false
theorem fnE_ok {K : PySem.W.Frag} {C f : Addr} {qual file : Str} {st : Stmt} (e : fnE K f = some (("__init__" : Str), qual, defArgs st, FuncBody.stmts (defBody st), defScope st, mainGlobals, [("__class__" : Str)], builtinsNs)) (q : fnEB K C f qual file = true) :
    ∃ (oc : Value) (od : Option Addr) (doc pm : Value) (an : Option Addr) (cda : Addr) (ct : Value) (cc : Addr) (osl : Array (Option Value)),
    K.lookup f = some ⟨oc, od, .func (ksFn "__init__" qual (defArgs st) (defBody st) (defScope st) .none .none doc pm an (.ref cda) ct cc), osl⟩ ∧ codeIn K (.ref cda) qual = true ∧
    (∃ ccl cdd vs ccs fl tf, K.lookup cda = some ⟨ccl, cdd, .fields vs, ccs⟩ ∧ vs[2]? = some (.str fl tf) ∧ (file == fl) = true) ∧
    ∃ cl cld csl, K.lookup cc = some ⟨cl, cld, .cell (some (.ref C)), csl⟩ := by
  unfold fnE at e
  unfold fnEB at q
  split at q
  · rename_i oc od fd osl ho
    rw [ho] at e
    obtain ⟨n1, n2, n3, n4, n5, n6, n7, n8, n9, n10, n11, n12, n13, n14, n15⟩ := fd
    have e2 : (some (n1, n2, n3, n4, n5, n6, n7.map (·.1), n15) : FnE) = some (("__init__" : Str), qual, defArgs st, FuncBody.stmts (defBody st), defScope st, mainGlobals, [("__class__" : Str)], builtinsNs) := e
    simp only [Option.some.injEq, Prod.mk.injEq] at e2
    obtain ⟨h1, h2, h3, h4, h5, h6, h7, h8⟩ := e2
    subst h1 h2 h3 h4 h5 h6 h8
    obtain ⟨k1, q⟩ := Bool.and_eq_true_iff.mp q
    obtain ⟨k2, q⟩ := Bool.and_eq_true_iff.mp q
    obtain ⟨k3, q⟩ := Bool.and_eq_true_iff.mp q
    obtain ⟨k4, k5⟩ := Bool.and_eq_true_iff.mp q
    replace k1 := of_decide_eq_true k1
    replace k2 := of_decide_eq_true k2
    dsimp only at k1 k2 k3 k4 k5
    subst k1 k2
    cases n7 with
    | nil => cases h7
    | cons c0 r =>
      cases r with
      | cons _ _ => simp at h7
      | nil =>
        obtain ⟨cn, cc⟩ := c0
        simp at h7
        subst h7
        cases n13 with
        | ref cda =>
          refine ⟨oc, od, n10, n11, n12, cda, n14, cc, osl, ho, k3, ?_, ?_⟩
          · unfold fileB at k4
            dsimp only at k4
            split at k4
            · rename_i ccl cdd vs ccs hc
              split at k4
              · rename_i fl tf hv
                exact ⟨ccl, cdd, vs, ccs, fl, tf, hc, hv, k4⟩
              · cases k4
            · cases k4
          · unfold cellB at k5
            dsimp only at k5
            split at k5
            · rename_i cl cld C' csl hc
              have := beq_iff_eq.mp k5
              subst this
              exact ⟨cl, cld, csl, hc⟩
            · cases k5
        | _ => cases k4
  · cases q
end DLE
namespace DLE
open PySem PySem.Spec PyProof.Rows PySem.W PySem.HandSPX PySem.Calls L2
/-- an error class of the program as the head tells it: its name, its attribute, its __init__'s qualified name and row -/
structure ErrD where
  nm : Str
  f : Str
  qual : Str
  st : Stmt
def ErrD.val (d : ErrD) : FnE := some (("__init__" : Str), d.qual, defArgs d.st, FuncBody.stmts (defBody d.st), defScope d.st, mainGlobals, [("__class__" : Str)], builtinsNs)
def ErrD.obs (K : PySem.W.Frag) (d : ErrD) : FnE := fnE K (He.ma K (He.ga K d.nm) "__init__")
def ErrD.C (K : PySem.W.Frag) (d : ErrD) : Addr := He.ga K d.nm
def ErrD.fI (K : PySem.W.Frag) (d : ErrD) : Addr := He.ma K (He.ga K d.nm) "__init__"
def errB1 (K : PySem.W.Frag) (C fI : Addr) (f : Str) : Bool :=
  decide (findIn K (.ref C) "__setattr__" = some (some (.builtin "object.__setattr__"))) && (decide (findIn K (.ref C) f = some none) && (decide (findIn K (.ref C) "__init__" = some (some (.ref fI))) && (decide (typeIn K (.ref fI) = some (.type "function")) && (keepIn K (.ref C) &&
  (decide (subIn K (.ref C) (.type "BaseException") = some true) && (decide (subIn K (.ref C) (.type "ValueError") = some true) && (decide (typeIn K (.ref C) = some (.type "type")) && (decide (ks_superIn K C C "__init__" = some (some (.builtin "ValueError.__init__"))) && decide (mroIn K C (.ref C) = some true)))))))))
def errB2 (K : PySem.W.Frag) (C : Addr) : Bool :=
  (clsIn K C).isSome && (decide (findIn K (.ref C) "__getattribute__" = some (some (.builtin "BaseException.__getattribute__"))) && (decide (findIn K (.ref C) "__getattr__" = some none) && (hasDictIn K C && (decide (findIn K (.ref C) "__class__" = some (some (.builtin "object.__class__"))) &&
  (decide (specialIn K (.builtin "object.__class__") "__get__" = some (some (.builtin "getset_descriptor.__get__"))) && (decide (takesIn K (.builtin "object.__class__") = some true) && decide (mroIn K C (.type "object") = some true)))))))
def ErrD.ok (file : Str) (K : PySem.W.Frag) (d : ErrD) : Bool := clsVB K (d.C K) && (errB1 K (d.C K) (d.fI K) d.f && (errB2 K (d.C K) && fnEB K (d.C K) (d.fI K) d.qual file))
theorem ErrD.errC {P : Program} {K : PySem.W.Frag} {mg : Str → Option Value} {d : ErrD} {file : Str} (hf : (P.main.file : Str) = file) (o : d.obs K = d.val) (h : d.ok file K = true) : ErrC P K mg d.f (d.C K) (d.fI K) d.qual d.st := by
  obtain ⟨h1, h⟩ := Bool.and_eq_true_iff.mp h
  obtain ⟨h2, h⟩ := Bool.and_eq_true_iff.mp h
  obtain ⟨_, h4⟩ := Bool.and_eq_true_iff.mp h
  obtain ⟨a1, h2⟩ := Bool.and_eq_true_iff.mp h2
  obtain ⟨a2, h2⟩ := Bool.and_eq_true_iff.mp h2
  obtain ⟨a3, h2⟩ := Bool.and_eq_true_iff.mp h2
  obtain ⟨a4, h2⟩ := Bool.and_eq_true_iff.mp h2
  obtain ⟨a5, h2⟩ := Bool.and_eq_true_iff.mp h2
  obtain ⟨a6, h2⟩ := Bool.and_eq_true_iff.mp h2
  obtain ⟨a7, h2⟩ := Bool.and_eq_true_iff.mp h2
  obtain ⟨a8, h2⟩ := Bool.and_eq_true_iff.mp h2
  obtain ⟨a9, a10⟩ := Bool.and_eq_true_iff.mp h2
  refine ⟨clsVB_ok h1, of_decide_eq_true a1, of_decide_eq_true a2, of_decide_eq_true a3, of_decide_eq_true a4, a5, of_decide_eq_true a6, of_decide_eq_true a7, of_decide_eq_true a8, of_decide_eq_true a9, of_decide_eq_true a10, ?_⟩
  rw [hf]
  exact fnE_ok o h4
theorem ErrD.ask {K : PySem.W.Frag} {d : ErrD} {file : Str} (h : d.ok file K = true) : DL.ErrAsk K (He.ga K d.nm) d.f := by
  obtain ⟨_, h⟩ := Bool.and_eq_true_iff.mp h
  obtain ⟨h2, h⟩ := Bool.and_eq_true_iff.mp h
  obtain ⟨h3, _⟩ := Bool.and_eq_true_iff.mp h
  obtain ⟨_, h2⟩ := Bool.and_eq_true_iff.mp h2
  obtain ⟨a2, h2⟩ := Bool.and_eq_true_iff.mp h2
  obtain ⟨_, h2⟩ := Bool.and_eq_true_iff.mp h2
  obtain ⟨_, h2⟩ := Bool.and_eq_true_iff.mp h2
  obtain ⟨_, h2⟩ := Bool.and_eq_true_iff.mp h2
  obtain ⟨a6, _⟩ := Bool.and_eq_true_iff.mp h2
  obtain ⟨b1, h3⟩ := Bool.and_eq_true_iff.mp h3
  obtain ⟨b2, h3⟩ := Bool.and_eq_true_iff.mp h3
  obtain ⟨b3, h3⟩ := Bool.and_eq_true_iff.mp h3
  obtain ⟨b4, h3⟩ := Bool.and_eq_true_iff.mp h3
  obtain ⟨b5, h3⟩ := Bool.and_eq_true_iff.mp h3
  obtain ⟨b6, h3⟩ := Bool.and_eq_true_iff.mp h3
  obtain ⟨b7, b8⟩ := Bool.and_eq_true_iff.mp h3
  exact ⟨b1, of_decide_eq_true b2, of_decide_eq_true b3, of_decide_eq_true a6, b4, of_decide_eq_true a2, of_decide_eq_true b5, of_decide_eq_true b6, of_decide_eq_true b7, of_decide_eq_true b8⟩
/-- what is told of who is whose class: an except clause, isinstance -/
def relB (K : PySem.W.Frag) (ns : List Str) (cn : Str) (cv : Value) : Bool := ns.all fun nm => decide (exmOne K (.ref (He.ga K nm)) cv = some (DL.subN nm cn)) && decide (kitOne K (.ref (He.ga K nm)) cv = some (DL.subN nm cn))
theorem relB_ok {K : PySem.W.Frag} {ns : List Str} {cn : Str} {cv : Value} (h : relB K ns cn cv = true) : DL.ExmOk K ns cn cv ∧ DL.KitOk K ns cn cv := by
  refine ⟨fun nm hm => ?_, fun nm hm => ?_⟩
  · exact of_decide_eq_true (Bool.and_eq_true_iff.mp (List.all_eq_true.mp h nm hm)).1
  · exact of_decide_eq_true (Bool.and_eq_true_iff.mp (List.all_eq_true.mp h nm hm)).2
end DLE
namespace DLE
open PySem PySem.Spec PyProof.Rows PySem.W PySem.HandSPX PySem.Calls L2
/-- the j-th statement of a class -/
def inCls : Stmt → Nat → Stmt
  | .ClassDef _ _ _ body _ _ _ _ _ _ _, j => body.getD j (.Pass ⟨0, 0, 0, 0⟩)
  | s, _ => s
def cvOf (K : PySem.W.Frag) (cn : Str) : Value := if cn = ("ValueError" : Str) then .type "ValueError" else .ref (He.ga K cn)
abbrev AlE : Type := He.AlD × (Bool × List FnE)
def obsE (fa : List He.Fa) (fn : List He.DefD) (es : List ErrD) (cs : List Str) (file : Str) (K : PySem.W.Frag) : AlE :=
  (He.obsD fa fn K, (es.all (ErrD.ok file K) && (cs.all (fun c => relB K (es.map (·.nm)) c (cvOf K c)) && decide (nsIn K cStatics "thirdparty.any" = some none)), es.map (ErrD.obs K)))
def valE (fn : List He.DefD) (es : List ErrD) : AlE := (He.valD fn, (true, es.map ErrD.val))
structure SaysE (fa : List He.Fa) (fn : List He.DefD) (es : List ErrD) (cs : List Str) (file : Str) (K : PySem.W.Frag) : Prop where
  d : He.SaysD fa fn K
  e : ∀ d ∈ es, d.ok file K = true ∧ d.obs K = d.val
  r : ∀ c ∈ cs, relB K (es.map (·.nm)) c (cvOf K c) = true
  s : nsIn K cStatics "thirdparty.any" = some none
theorem map_eq {α β : Type} {f g : α → β} : ∀ {l : List α}, l.map f = l.map g → ∀ x ∈ l, f x = g x
  | [], _, _, h => by cases h
  | a :: l, e, x, h => by
    simp only [List.map_cons, List.cons.injEq] at e
    rcases List.mem_cons.mp h with z | z
    · rw [z]; exact e.1
    · exact map_eq e.2 x z
theorem saysE_of {fa : List He.Fa} {fn : List He.DefD} {es : List ErrD} {cs : List Str} {file : Str} {K : PySem.W.Frag} (e : obsE fa fn es cs file K = valE fn es) : SaysE fa fn es cs file K := by
  have e1 := congrArg (fun z : AlE => z.1) e
  have e2 := congrArg (fun z : AlE => z.2.1) e
  have e3 := congrArg (fun z : AlE => z.2.2) e
  obtain ⟨h1, h2⟩ := Bool.and_eq_true_iff.mp (show (es.all (ErrD.ok file K) && (cs.all (fun c => relB K (es.map (·.nm)) c (cvOf K c)) && decide (nsIn K cStatics "thirdparty.any" = some none))) = true from e2)
  obtain ⟨h2, h3⟩ := Bool.and_eq_true_iff.mp h2
  exact ⟨e1, fun d hd => ⟨List.all_eq_true.mp h1 d hd, map_eq e3 d hd⟩, fun c hc => List.all_eq_true.mp h2 c hc, of_decide_eq_true h3⟩
/-- the addresses that are looked at -/
def asE (g : Addr → Option Obj) : Nat → List Addr
  | 0 => [mainGlobals, cStatics]
  | n + 1 => He.growD g (asE g n)
def obsEG (n : Nat) (fa : List He.Fa) (fn : List He.DefD) (es : List ErrD) (cs : List Str) (file : Str) (g : Addr → Option Obj) : AlE := obsE fa fn es cs file (He.frG g (asE g n))
def hookE (n : Nat) (fa : List He.Fa) (fn : List He.DefD) (es : List ErrD) (cs : List Str) (file : Str) : PySem.W.Hook where
  α := AlE
  obs := fun s => obsEG n fa fn es cs file s.heap.get?
  val := fun _ => valE fn es
  says := fun _ h => ∃ K : PySem.W.Frag, K.In h ∧ SaysE fa fn es cs file K
  of := fun _ _ e => ⟨_, He.frG_in, saysE_of e⟩
  keeps := fun _ _ _ ⟨K, hK, c⟩ k => ⟨K, PySem.W.Frag.In.keeps hK k, c⟩
theorem obsEG_eq {n : Nat} {fa : List He.Fa} {fn : List He.DefD} {es : List ErrD} {cs : List Str} {file : Str} {g : Addr → Option Obj} {s : Shared} (h : ∀ a, g a = s.heap.get? a) : obsEG n fa fn es cs file g = (hookE n fa fn es cs file).obs s := by
  have e : g = s.heap.get? := funext h
  rw [e] <;> rfl
end DLE
namespace DL
open PySem PySem.Spec PyProof.Rows L2 DLE DLU
/-- the least that a reading asks for -/
def tCan (K : PySem.W.Frag) (W : WX) (ds : DSv) : TS := fun D σ H => ∃ (C : Cc) (F : Hp) (ρ : List SV) (En : DEnds), C.K = K ∧ I C F H σ ρ ∧ ds En ρ ∧ EndsOk W C F En D
theorem DSs.can {X : Cx} {W : WX} {b : List Stmt} {ds : DSv} (h : ∃ t, DSs X W b t ds) : DSs X W b (tCan X.K W ds) ds := by
  obtain ⟨t, h⟩ := h
  refine ⟨⟨fun pins s σ H D I q => ?_⟩, fun C F H σ ρ En D hK J q E => ⟨C, F, ρ, En, hK, J, q, E⟩⟩
  obtain ⟨C, F, ρ, En, hK, J, q, E⟩ := q
  exact h.ps.run pins s σ H D I (h.sim C F H σ ρ En D hK J q E)
section
variable {X : Cx} {W : WX} {ns : List Str} {cn : Str} {x n : Str} {c : Value} {i : Nat} {body suite : List Stmt} {b₀ : Stmt} {np pos pos' : Pos} {db : DSv} {dsu : Addr → Value → Option Addr → DSv}
theorem ds_tryX (hs : X.stack = X.env :: X.outer) (hf : X.env.frame = some X.env.locals) (hN : X.N.Nodup) (hi : X.N[i]? = some n) (hln : X.env.kindOf n = some .local) (hc : Names X x c) (hx : ExmOk X.K ns cn c) (tk : L2N.Takes X W)
    (hb : ∀ (W' : WX) (pn : List (Addr × Obj)) (xe : Value → Shared → Prop), L2N.Takes (X.tr pn xe) W' → PassesOwn (model X.prog X.w) X.A X.env xe → ∃ t, DSs (X.tr pn xe) W' body t db)
    (hsu : ∀ (a : Addr) (oe : Obj) (cls : Value) (d : Option Addr) (pn : List (Addr × Obj)), Held (X.suite a ((a, oe) :: pn)) a cls d → ∃ t, DSs (X.suite a ((a, oe) :: pn)) WNo (b₀ :: suite) t (dsu a cls d)) :
    DS X W (.Try body [.ExceptHandler (some (.Name x np)) (some n) (b₀ :: suite) pos'] [] [] pos) (fun D σ H => tCan X.K (wAs X.K c i (fun a cls d => tCan X.K WNo (dsu a cls d)) W D) db D σ H) (dTryAs ns cn i db dsu) :=
  ds_try_as (tb := fun W' => tCan X.K W' db) (ts := fun a cls d => tCan X.K WNo (dsu a cls d)) hs hf hN hi hln hc hx tk (fun W' pn xe t p => DSs.can (hb W' pn xe t p)) fun a oe cls d pn hz hf => DSs.can (hsu a oe cls d pn ⟨oe, List.mem_cons_self, hz, hf⟩)
end
end DL
namespace DL
open PySem PySem.Spec PyProof.Rows L2 DLE DLU
theorem Held.hot {X : Cx} {a : Addr} {pn : List (Addr × Obj)} {cls : Value} {d : Option Addr} (h : Held (X.suite a pn) a cls d) : Mo (X.suite a pn) true := by
  obtain ⟨oe, h1, h2, vs, h3⟩ := h
  exact .inr ⟨rfl, (a, oe), ⟨rfl, vs, h3, h2.2.2 vs h3⟩, h1⟩
end DL
namespace DLU
open PySem PySem.Spec PyProof.Rows L2
theorem Rm.mark {k : Nat} {A : Around} (r : Rm k A) (v : Option Value) : Rm k (A.mark v) := ⟨r.dp, r.un, r.gd⟩
end DLU
namespace HD
open PySem PySem.Spec PyProof.Rows L2
def top (i : Nat) : Stmt := PySem.Challenge.pw_slotspromised_k00_spans_by_their_periods.main.body.getD i (.Pass ⟨0, 0, 0, 0⟩)
def file : PySem.Str := PySem.Challenge.pw_slotspromised_k00_spans_by_their_periods.main.file
abbrev s_InvalidNumber : Stmt := DLE.inCls (top 2) 0
def e_InvalidNumber : DLE.ErrD := ⟨"InvalidNumber", "number", "InvalidNumber.__init__", s_InvalidNumber⟩
abbrev s_is_from_to : Stmt := top 5
def d_is_from_to : He.DefD := ⟨("is_from_to", none), "is_from_to", "is_from_to", defArgs s_is_from_to, defBody s_is_from_to, defScope s_is_from_to, [], []⟩
abbrev s_check_number : Stmt := top 6
def d_check_number : He.DefD := ⟨("check_number", none), "check_number", "check_number", defArgs s_check_number, defBody s_check_number, defScope s_check_number, [], []⟩
abbrev s_spans_of : Stmt := top 8
def d_spans_of : He.DefD := ⟨("spans_of", none), "spans_of", "spans_of", defArgs s_spans_of, defBody s_spans_of, defScope s_spans_of, [], []⟩
abbrev s_within : Stmt := top 9
def d_within : He.DefD := ⟨("within", none), "within", "within", defArgs s_within, defBody s_within, defScope s_within, [], []⟩
abbrev s_all_spans : Stmt := top 10
def d_all_spans : He.DefD := ⟨("all_spans", none), "all_spans", "all_spans", defArgs s_all_spans, defBody s_all_spans, defScope s_all_spans, [], []⟩
abbrev s_lies_in : Stmt := top 11
def d_lies_in : He.DefD := ⟨("lies_in", none), "lies_in", "lies_in", defArgs s_lies_in, defBody s_lies_in, defScope s_lies_in, [], []⟩
abbrev s_meets : Stmt := top 12
def d_meets : He.DefD := ⟨("meets", none), "meets", "meets", defArgs s_meets, defBody s_meets, defScope s_meets, [], []⟩
abbrev s_common_part : Stmt := top 13
def d_common_part : He.DefD := ⟨("common_part", none), "common_part", "common_part", defArgs s_common_part, defBody s_common_part, defScope s_common_part, [], []⟩
abbrev s__law_source : Stmt := top 15
def d__law_source : He.DefD := ⟨("_law_source", none), "_law_source", "_law_source", defArgs s__law_source, defBody s__law_source, defScope s__law_source, [], []⟩
abbrev s__law_draw : Stmt := top 16
def d__law_draw : He.DefD := ⟨("_law_draw", none), "_law_draw", "_law_draw", defArgs s__law_draw, defBody s__law_draw, defScope s__law_draw, [], []⟩
abbrev s__law_pair : Stmt := top 17
def d__law_pair : He.DefD := ⟨("_law_pair", none), "_law_pair", "_law_pair", defArgs s__law_pair, defBody s__law_pair, defScope s__law_pair, [], []⟩
abbrev s__law_beside : Stmt := top 18
def d__law_beside : He.DefD := ⟨("_law_beside", none), "_law_beside", "_law_beside", defArgs s__law_beside, defBody s__law_beside, defScope s__law_beside, [], []⟩
abbrev s__law_periods : Stmt := top 19
def d__law_periods : He.DefD := ⟨("_law_periods", none), "_law_periods", "_law_periods", defArgs s__law_periods, defBody s__law_periods, defScope s__law_periods, [], []⟩
abbrev s__law_same : Stmt := top 20
def d__law_same : He.DefD := ⟨("_law_same", none), "_law_same", "_law_same", defArgs s__law_same, defBody s__law_same, defScope s__law_same, [], []⟩
abbrev s__law_two : Stmt := top 21
def d__law_two : He.DefD := ⟨("_law_two", none), "_law_two", "_law_two", defArgs s__law_two, defBody s__law_two, defScope s__law_two, [], []⟩
abbrev s__law_all : Stmt := top 22
def d__law_all : He.DefD := ⟨("_law_all", none), "_law_all", "_law_all", defArgs s__law_all, defBody s__law_all, defScope s__law_all, [], []⟩
abbrev s__law_refused : Stmt := top 23
def d__law_refused : He.DefD := ⟨("_law_refused", none), "_law_refused", "_law_refused", defArgs s__law_refused, defBody s__law_refused, defScope s__law_refused, [], []⟩
abbrev s__law_scene : Stmt := top 24
def d__law_scene : He.DefD := ⟨("_law_scene", none), "_law_scene", "_law_scene", defArgs s__law_scene, defBody s__law_scene, defScope s__law_scene, [], []⟩
abbrev s_law : Stmt := top 25
def d_law : He.DefD := ⟨("law", none), "law", "law", defArgs s_law, defBody s_law, defScope s_law, [], []⟩
def fn : List He.DefD := [d_is_from_to, d_check_number, d_spans_of, d_within, d_all_spans, d_lies_in, d_meets, d_common_part, d__law_source, d__law_draw, d__law_pair, d__law_beside, d__law_periods, d__law_same, d__law_two, d__law_all, d__law_refused, d__law_scene, d_law]
def fa : List He.Fa := [.glo "SlotError", .glo "InvalidNumber", .int "MOST_PERIODS" 24, .glo "is_from_to", .glo "check_number", .glo "spans_of", .glo "within", .glo "all_spans", .glo "lies_in", .glo "meets", .glo "common_part", .glo "_law_source", .glo "_law_draw", .glo "_law_pair", .glo "_law_beside", .glo "_law_periods", .glo "_law_same", .glo "_law_two", .glo "_law_all", .glo "_law_refused", .glo "_law_scene", .glo "law", .free "ValueError", .free "bool", .free "int", .free "isinstance", .free "len", .free "list", .free "max", .free "min", .free "range", .free "repr", .free "super", .free "tuple"]
abbrev R : PySem.W.OpenRow := PySem.W.OpenLaw.row PySem.Challenge.rw_slotspromised_k00_spans_by_their_periods
abbrev qv : Program := PySem.W.view R.prog [25]
def nm0 : List PySem.Str := ["SlotError", "InvalidNumber", "MOST_PERIODS", "is_from_to", "check_number", "spans_of", "within", "all_spans", "lies_in", "meets", "common_part", "_law_source", "_law_draw", "_law_pair", "_law_beside", "_law_periods", "_law_same", "_law_two", "_law_all", "_law_refused"]
def nm1 : List PySem.Str := ["_law_scene"]
def names : List PySem.Str := nm0 ++ nm1
def es : List DLE.ErrD := [e_InvalidNumber]
def cs : List PySem.Str := ["InvalidNumber", "SlotError", "ValueError"]
abbrev hk : PySem.W.Hook := DLE.hookE 4 fa fn es cs file
def ob (s : PySem.W.SharedT) : DLE.AlE := DLE.obsEG 4 fa fn es cs file (HandSHeadRun.getT s)
theorem ob_eq (s : PySem.W.SharedT) : ob s = hk.obs s.abs := DLE.obsEG_eq (HandSHeadRun.getT_eq s)
theorem run (w : World) : HandSHeadRun.RunEq R qv hk ob 20000 names w := by
  intro os
  kernel_rfl
end HD
namespace LW
open PySem PySem.Spec PyProof.Rows L2 DLU DLR DL HD

/-- what a draw's source is -/
def SrcP (xs : List D) : Prop := ∃ (s a b : Int) (gs : List Int), xs = [.int s, .int a, .int b, .lst (gs.map D.int)] ∧ 0 ≤ s ∧ s < 2305843009213693951 ∧ 0 ≤ b
/-- a pair of numbers, as a tuple or a list -/
def pr (i : Bool) (p : Int × Int) : D := sq i [.int p.1, .int p.2]
def RoomOk (ns : List Int) : Prop := 1 ≤ ns.length ∧ ns.length ≤ 24 ∧ ∀ x ∈ ns, 0 ≤ x ∧ x ≤ 100
def PairOk (n : Nat) (q : Int × Int) : Prop := 0 ≤ q.1 ∧ q.1 ≤ q.2 ∧ q.2 < n
/-- how many of ps lie within q -/
def cnt (ps : List (Int × Int)) (q : Int × Int) : Nat := (ps.filter fun p => decide (q.1 ≤ p.1) && decide (p.2 ≤ q.2)).length
/-- sums of ns: of the first k, of the places q.1 .. q.2 -/
def pf (ns : List Int) (k : Nat) : Int := (ns.take k).sum
def sm (ns : List Int) (q : Int × Int) : Int := pf ns (q.2.toNat + 1) - pf ns q.1.toNat
/-- is x a whole number from l to m -/
def inFT (x : D) (l m : Int) : Bool := match x with
  | .int v => decide (l ≤ v) && decide (v ≤ m)
  | _ => false
/-- the spans of n periods that begin at f; all of them -/
def spanRow (n f : Nat) : List (Int × Int) := (List.range (n - f)).map fun d => ((f : Int), ((f + d : Nat) : Int))
def spansL (n : Nat) : List (Int × Int) := (List.range n).flatMap (spanRow n)

structure Mg (mg : Str → Option Value) : Prop where
  b_ValueError : mg "ValueError" = none
  b_bool : mg "bool" = none
  b_int : mg "int" = none
  b_isinstance : mg "isinstance" = none
  b_len : mg "len" = none
  b_list : mg "list" = none
  b_max : mg "max" = none
  b_min : mg "min" = none
  b_range : mg "range" = none
  b_repr : mg "repr" = none
  b_tuple : mg "tuple" = none
  c_MOST_PERIODS : ∃ t, mg "MOST_PERIODS" = some (.int 24 t)
  triv : True
def errs : List Str := ["InvalidNumber"]
theorem row_InvalidNumber : DLE.ErrS "number" s_InvalidNumber where
  head := ⟨_, rfl, rfl⟩
  body := ⟨_, _, _, _, _, _, _, _, _, _, fun _ => rfl, rfl⟩
  ks := by rfl
  kc := by rfl
  kself := by rfl
  kf := by rfl
  nocell := by decide
  co := by rfl
  gen := by rfl
  kind := by rfl
  ne := by decide
  nd := by decide
  bind := fun _ _ _ _ _ _ _ us hl => match us, hl with | [_, _], _ => rfl
structure Er (P : Program) (K : PySem.W.Frag) (mg : Str → Option Value) : Prop where
  e_InvalidNumber : DLE.ErrC P K mg "number" (He.ga K "InvalidNumber") (He.ma K (He.ga K "InvalidNumber") "__init__") "InvalidNumber.__init__" s_InvalidNumber
  g_InvalidNumber : mg "InvalidNumber" = some (.ref (He.ga K "InvalidNumber"))
  x_InvalidNumber : ExmOk K errs "InvalidNumber" (.ref (He.ga K "InvalidNumber"))
  k_InvalidNumber : KitOk K errs "InvalidNumber" (.ref (He.ga K "InvalidNumber"))
  g_SlotError : mg "SlotError" = some (.ref (He.ga K "SlotError"))
  x_SlotError : ExmOk K errs "SlotError" (.ref (He.ga K "SlotError"))
  k_SlotError : KitOk K errs "SlotError" (.ref (He.ga K "SlotError"))
  k_ValueError : KitOk K errs "ValueError" (.type "ValueError")
  m : DLE.ErrM P K mg
  ask : AskOk K errs
abbrev N__law_source : List Str := ["script", "state", "great", "cell"]
def S__law_source : DSpecO := fun svs ret exc => ∃ ns : List Int, svs = [.d (.fl (ns.map D.int))] ∧ ns.length ≤ 63 ∧ ∀ xs, SrcP xs → ret xs [.un]
def ds__law_source_b1 : DSv := (dSeq (dIfS (dTest (dOp dGe (dVar 3) (dOp (dI2 CPow fun i j => .int (i ^ j.toNat)) (dC (.int 10)) (dC (.int 18)))))
  (dDrop (dMet 2 mApp (dCons (dVar 3) dNil)))
  dNext)
  (dSeq (dAsg (dOp (dI2 (fun _ j => 0 < j) fun i j => .int (i % j)) (dCB dIntOf (dCons (dOp dAdd (dOp (dI2 CMul fun i j => .int (i * j)) (dVar 1) (dVar 1)) (dVar 3)) dNil)) (dC (.int 2305843009213693951))) (dgName 1))
  (dAsg (dOp (dI2 (fun _ j => 0 < j) fun i j => .int (i % j)) (dCB dIntOf (dCons (dOp dAdd (dOp (dI2 CMul fun i j => .int (i * j)) (dVar 1) (dVar 1)) (dC (.int 12289))) dNil)) (dC (.int 2305843009213693951))) (dgName 1))))
def ds__law_source_s3 : DSv := (dStill 2 (dRetO (dLst (dCons (dVar 1) (dCons (dC (.int 0)) (dCons (dC (.int 0)) (dCons (dVar 2) dNil)))))))
def ds__law_source_s2 : DSv := (dSeq (dFor (dIter (dSl (dVar 0) dNoPart (dPart (dC (.int 63))))) (dgName 3)
  ds__law_source_b1)
  ds__law_source_s3)
def ds__law_source_s1 : DSv := (dSeq (dAsgO (dLst dNil) 2)
  ds__law_source_s2)
def ds__law_source : DSv := (dSeq (dAsg (dC (.int 1234567890123456789)) (dgName 1))
  ds__law_source_s1)
abbrev N__law_same : List Str := ["actual", "due", "at"]
def S__law_same : DSpec := fun svs ret exc => ∃ x : D, svs = [.d x, .d x] ∧ (x = .non ∨ ∃ p, x = pr true p) ∧ ret (.bl true) [.un, .un]
def ds__law_same_b1 : DSv := (dIfS (dOr (dNot (dTest (dCB dIsi (dCons (dOp dIx (dVar 0) (dVar 2)) (dCons (dC (.ty "int")) dNil))))) (dOr (dTest (dCB dIsi (dCons (dOp dIx (dVar 0) (dVar 2)) (dCons (dC (.ty "bool")) dNil)))) (dTest (dOp dNe (dOp dIx (dVar 0) (dVar 2)) (dOp dIx (dVar 1) (dVar 2))))))
  (dRet (dC (.bl false)))
  dNext)
def ds__law_same_s3 : DSv := (dRet (dC (.bl true)))
def ds__law_same_s2 : DSv := (dSeq (dFor (dRng1 (dCons (dC (.int 2)) dNil)) (dgName 2)
  ds__law_same_b1)
  ds__law_same_s3)
def ds__law_same_s1 : DSv := (dSeq (dIfS (dOr (dNot (dTest (dCB dIsi (dCons (dVar 0) (dCons (dC (.ty "tuple")) dNil))))) (dTest (dOp dNe (dCB dLen (dCons (dVar 0) dNil)) (dC (.int 2)))))
  (dRet (dC (.bl false)))
  dNext)
  ds__law_same_s2)
def ds__law_same : DSv := (dSeq (dIfS (dTest (dOp dIsN (dVar 1) (dC .non)))
  (dRet (dOp dIsN (dVar 0) (dC .non)))
  dNext)
  ds__law_same_s1)
abbrev N_within : List Str := ["one", "other"]
def S_within : DSpec := fun svs ret exc => ∃ (i j : Bool) (p q : Int × Int), svs = [.d (pr i p), .d (pr j q)] ∧ ret (.bl (decide (q.1 ≤ p.1) && decide (p.2 ≤ q.2))) [.un, .un]
def ds_within : DSv := (dRet (dAndV (dOp dLe (dOp dIx (dVar 1) (dC (.int 0))) (dOp dIx (dVar 0) (dC (.int 0)))) (dOp dLe (dOp dIx (dVar 0) (dC (.int 1))) (dOp dIx (dVar 1) (dC (.int 1))))))
abbrev N_lies_in : List Str := ["one", "other"]
def S_lies_in : DSpec := fun svs ret exc => ∃ (i j : Bool) (p q : Int × Int), svs = [.d (pr i p), .d (pr j q)] ∧ ret (.bl (decide (q.1 ≤ p.1) && decide (p.2 ≤ q.2))) [.un, .un]
def ds_lies_in : DSv := (dRet (dCall S_within [] (dCons (dVar 0) (dCons (dVar 1) dNil))))
abbrev N_meets : List Str := ["one", "other"]
def S_meets : DSpec := fun svs ret exc => ∃ (i j : Bool) (p q : Int × Int), svs = [.d (pr i p), .d (pr j q)] ∧ ret (.bl (decide (max p.1 q.1 ≤ min p.2 q.2))) [.un, .un]
def ds_meets : DSv := (dRet (dOp dLe (dCB (dInt2 fun i j => .int (if j > i then j else i)) (dCons (dOp dIx (dVar 0) (dC (.int 0))) (dCons (dOp dIx (dVar 1) (dC (.int 0))) dNil))) (dCB (dInt2 fun i j => .int (if j < i then j else i)) (dCons (dOp dIx (dVar 0) (dC (.int 1))) (dCons (dOp dIx (dVar 1) (dC (.int 1))) dNil)))))
abbrev N_common_part : List Str := ["one", "other"]
def S_common_part : DSpec := fun svs ret exc => ∃ (i j : Bool) (p q : Int × Int), svs = [.d (pr i p), .d (pr j q)] ∧ ret (if max p.1 q.1 ≤ min p.2 q.2 then pr true (max p.1 q.1, min p.2 q.2) else .non) [.un, .un]
def ds_common_part_s1 : DSv := (dRet (dTup (dCons (dCB (dInt2 fun i j => .int (if j > i then j else i)) (dCons (dOp dIx (dVar 0) (dC (.int 0))) (dCons (dOp dIx (dVar 1) (dC (.int 0))) dNil))) (dCons (dCB (dInt2 fun i j => .int (if j < i then j else i)) (dCons (dOp dIx (dVar 0) (dC (.int 1))) (dCons (dOp dIx (dVar 1) (dC (.int 1))) dNil))) dNil))))
def ds_common_part : DSv := (dSeq (dIfS (dNot (dTest (dCall S_meets [] (dCons (dVar 0) (dCons (dVar 1) dNil)))))
  (dRet (dC .non))
  dNext)
  ds_common_part_s1)
abbrev N__law_scene : List Str := []
def S__law_scene : DSpec := fun svs ret exc => svs = [] ∧ ret (.bl true) []
def ds__law_scene_s3 : DSv := (dRet (dAndV (dCall S__law_same [] (dCons (dCall S_common_part [] (dCons (dFrz (dLst (dCons (dC (.int 0)) (dCons (dC (.int 23)) dNil)))) (dCons (dFrz (dLst (dCons (dC (.int 2)) (dCons (dC (.int 5)) dNil)))) dNil))) (dCons (dTup (dCons (dC (.int 2)) (dCons (dC (.int 5)) dNil))) dNil))) (dOp dIsB (dCall S_lies_in [] (dCons (dTup (dCons (dC (.int 0)) (dCons (dC (.int 1)) dNil))) (dCons (dTup (dCons (dC (.int 2)) (dCons (dC (.int 3)) dNil))) dNil))) (dC (.bl false)))))
def ds__law_scene_s2 : DSv := (dSeq (dIfS (dOr (dNot (dTest (dCall S__law_same [] (dCons (dCall S_common_part [] (dCons (dTup (dCons (dC (.int 0)) (dCons (dC (.int 1)) dNil))) (dCons (dTup (dCons (dC (.int 1)) (dCons (dC (.int 2)) dNil))) dNil))) (dCons (dTup (dCons (dC (.int 1)) (dCons (dC (.int 1)) dNil))) dNil))))) (dTest (dOp dNotN (dCall S_common_part [] (dCons (dTup (dCons (dC (.int 0)) (dCons (dC (.int 1)) dNil))) (dCons (dTup (dCons (dC (.int 2)) (dCons (dC (.int 3)) dNil))) dNil))) (dC .non))))
  (dRet (dC (.bl false)))
  dNext)
  ds__law_scene_s3)
def ds__law_scene_s1 : DSv := (dSeq (dIfS (dOr (dTest (dOp dNotB (dCall S_meets [] (dCons (dTup (dCons (dC (.int 0)) (dCons (dC (.int 1)) dNil))) (dCons (dTup (dCons (dC (.int 1)) (dCons (dC (.int 2)) dNil))) dNil))) (dC (.bl true)))) (dOr (dTest (dOp dNotB (dCall S_meets [] (dCons (dTup (dCons (dC (.int 0)) (dCons (dC (.int 1)) dNil))) (dCons (dTup (dCons (dC (.int 2)) (dCons (dC (.int 2)) dNil))) dNil))) (dC (.bl false)))) (dTest (dOp dNotB (dCall S_meets [] (dCons (dFrz (dLst (dCons (dC (.int 2)) (dCons (dC (.int 5)) dNil)))) (dCons (dFrz (dLst (dCons (dC (.int 0)) (dCons (dC (.int 23)) dNil)))) dNil))) (dC (.bl true))))))
  (dRet (dC (.bl false)))
  dNext)
  ds__law_scene_s2)
def ds__law_scene : DSv := (dSeq (dIfS (dOr (dTest (dOp dNotB (dCall S_lies_in [] (dCons (dTup (dCons (dC (.int 1)) (dCons (dC (.int 2)) dNil))) (dCons (dTup (dCons (dC (.int 0)) (dCons (dC (.int 2)) dNil))) dNil))) (dC (.bl true)))) (dOr (dTest (dOp dNotB (dCall S_lies_in [] (dCons (dTup (dCons (dC (.int 0)) (dCons (dC (.int 2)) dNil))) (dCons (dTup (dCons (dC (.int 1)) (dCons (dC (.int 2)) dNil))) dNil))) (dC (.bl false)))) (dTest (dOp dNotB (dCall S_lies_in [] (dCons (dFrz (dLst (dCons (dC (.int 1)) (dCons (dC (.int 1)) dNil)))) (dCons (dFrz (dLst (dCons (dC (.int 1)) (dCons (dC (.int 1)) dNil)))) dNil))) (dC (.bl true))))))
  (dRet (dC (.bl false)))
  dNext)
  ds__law_scene_s1)
abbrev N__law_draw : List Str := ["source", "many", "great", "figure"]
def S__law_draw : DSpec := fun svs ret exc => ∃ many : Int, svs = [.op true SrcP, .d (.int many)] ∧ 0 < many ∧ many < 1000000 ∧ ∀ r : Int, 0 ≤ r → r < many → ret (.int r) [.op true SrcP, .un]
def ds__law_draw_s4 : DSv := (dRet (dOp (dI2 (fun _ j => 0 < j) fun i j => .int (i % j)) (dCB dIntOf (dCons (dOp (dI2 CDiv fun i j => .int (i / j)) (dIxO 0 (dC (.int 0))) (dC (.int 1048576))) dNil)) (dVar 1)))
def ds__law_draw_s3 : DSv := (dSeq (dSetI 0 (dOp (dI2 (fun _ j => 0 < j) fun i j => .int (i % j)) (dCB dIntOf (dCons (dOp dAdd (dOp (dI2 CMul fun i j => .int (i * j)) (dIxO 0 (dC (.int 0))) (dIxO 0 (dC (.int 0)))) (dC (.int 24593))) dNil)) (dC (.int 2305843009213693951))) (dC (.int 0)))
  ds__law_draw_s4)
def ds__law_draw_s2 : DSv := (dSeq (dIfS (dTest (dOp dGt (dIxO 0 (dC (.int 1))) (dC (.int 0))))
  (dSeq (dAsg (dOp (dI2 (fun _ j => 0 < j) fun i j => .int (i % j)) (dCB dIntOf (dCons (dIxO 0 (dC (.int 1))) dNil)) (dVar 1)) (dgName 3))
  (dSeq (dSetI 0 (dOp (dI2 CDiv fun i j => .int (i / j)) (dIxO 0 (dC (.int 1))) (dVar 1)) (dC (.int 1)))
  (dRet (dVar 3))))
  dNext)
  ds__law_draw_s3)
def ds__law_draw_s1 : DSv := (dSeq (dIfS (dAnd (dTest (dOp dEq (dIxO 0 (dC (.int 1))) (dC (.int 0)))) (dTest (dOp dLt (dIxO 0 (dC (.int 2))) (dCB dLen (dCons (dVar 2) dNil)))))
  (dSeq (dSetI 0 (dOp dIx (dVar 2) (dIxO 0 (dC (.int 2)))) (dC (.int 1)))
  (dSetI 0 (dOp dAdd (dIxO 0 (dC (.int 2))) (dC (.int 1))) (dC (.int 2))))
  dNext)
  ds__law_draw_s2)
def ds__law_draw : DSv := (dOpen 0 (dSeq (dAsg (dIxO 0 (dC (.int 3))) (dgName 2))
  ds__law_draw_s1))
abbrev N__law_pair : List Str := ["source", "size", "first"]
def S__law_pair : DSpec := fun svs ret exc => ∃ size : Int, svs = [.op true SrcP, .d (.int size)] ∧ 0 < size ∧ size < 1000000 ∧ ∀ a b : Int, 0 ≤ a → a ≤ b → b < size → ret (pr true (a, b)) [.op true SrcP, .un]
def ds__law_pair_s1 : DSv := (dRet (dTup (dCons (dVar 2) (dCons (dOp dAdd (dVar 2) (dCall S__law_draw [] (dConsS 0 (dCons (dOp (dI0 fun i j => .int (i - j)) (dVar 1) (dVar 2)) dNil)))) dNil))))
def ds__law_pair : DSv := (dSeq (dAsg (dCall S__law_draw [] (dConsS 0 (dCons (dVar 1) dNil))) (dgName 2))
  ds__law_pair_s1)
abbrev N__law_beside : List Str := ["source", "size", "pair", "kind", "first"]
def S__law_beside : DSpec := fun svs ret exc => ∃ (size : Int) (p : Int × Int), svs = [.op true SrcP, .d (.int size), .d (pr true p)] ∧ 0 < size ∧ size < 1000000 ∧ 0 ≤ p.1 ∧ p.1 ≤ p.2 ∧ p.2 < size ∧ ∀ a b : Int, 0 ≤ a → a ≤ b → b < size → ret (pr true (a, b)) [.op true SrcP, .un, .un]
def ds__law_beside_s4 : DSv := (dRet (dCall S__law_pair [] (dConsS 0 (dCons (dVar 1) dNil))))
def ds__law_beside_s3 : DSv := (dSeq (dIfS (dTest (dOp dEq (dVar 3) (dC (.int 2))))
  (dSeq (dAsg (dCB (dInt2 fun i j => .int (if j < i then j else i)) (dCons (dOp (dI0 fun i j => .int (i - j)) (dVar 1) (dC (.int 1))) (dCons (dCB (dInt2 fun i j => .int (if j > i then j else i)) (dCons (dC (.int 0)) (dCons (dOp dAdd (dOp (dI0 fun i j => .int (i - j)) (dOp dIx (dVar 2) (dC (.int 0))) (dC (.int 1))) (dCall S__law_draw [] (dConsS 0 (dCons (dC (.int 3)) dNil)))) dNil))) dNil))) (dgName 4))
  (dRet (dTup (dCons (dVar 4) (dCons (dCB (dInt2 fun i j => .int (if j < i then j else i)) (dCons (dOp (dI0 fun i j => .int (i - j)) (dVar 1) (dC (.int 1))) (dCons (dCB (dInt2 fun i j => .int (if j > i then j else i)) (dCons (dVar 4) (dCons (dOp dAdd (dOp (dI0 fun i j => .int (i - j)) (dOp dIx (dVar 2) (dC (.int 1))) (dC (.int 1))) (dCall S__law_draw [] (dConsS 0 (dCons (dC (.int 3)) dNil)))) dNil))) dNil))) dNil)))))
  dNext)
  ds__law_beside_s4)
def ds__law_beside_s2 : DSv := (dSeq (dIfS (dAnd (dTest (dOp dEq (dVar 3) (dC (.int 1)))) (dTest (dOp dGt (dOp dIx (dVar 2) (dC (.int 0))) (dC (.int 0)))))
  (dRet (dTup (dCons (dCall S__law_draw [] (dConsS 0 (dCons (dOp dIx (dVar 2) (dC (.int 0))) dNil))) (dCons (dOp dAdd (dOp (dI0 fun i j => .int (i - j)) (dOp dIx (dVar 2) (dC (.int 0))) (dC (.int 1))) (dCall S__law_draw [] (dConsS 0 (dCons (dC (.int 2)) dNil)))) dNil))))
  dNext)
  ds__law_beside_s3)
def ds__law_beside_s1 : DSv := (dSeq (dIfS (dAnd (dTest (dOp dEq (dVar 3) (dC (.int 0)))) (dTest (dOp dLt (dOp dAdd (dOp dIx (dVar 2) (dC (.int 1))) (dC (.int 1))) (dVar 1))))
  (dSeq (dAsg (dOp dAdd (dOp dIx (dVar 2) (dC (.int 1))) (dC (.int 1))) (dgName 4))
  (dRet (dTup (dCons (dVar 4) (dCons (dOp dAdd (dVar 4) (dCall S__law_draw [] (dConsS 0 (dCons (dOp (dI0 fun i j => .int (i - j)) (dVar 1) (dVar 4)) dNil)))) dNil)))))
  dNext)
  ds__law_beside_s2)
def ds__law_beside : DSv := (dSeq (dAsg (dCall S__law_draw [] (dConsS 0 (dCons (dC (.int 4)) dNil))) (dgName 3))
  ds__law_beside_s1)
abbrev N_is_from_to : List Str := ["value", "least", "most"]
def S_is_from_to : DSpec := fun svs ret exc => ∃ (x : D) (l m : Int), svs = [.d x, .d (.int l), .d (.int m)] ∧ x.tyN.isSome = true ∧ ret (.bl (inFT x l m)) [.un, .un, .un]
def ds_is_from_to : DSv := (dRet (dAndV (dCB dIsi (dCons (dVar 0) (dCons (dC (.ty "int")) dNil))) (dAndV (dNotV (dCB dIsi (dCons (dVar 0) (dCons (dC (.ty "bool")) dNil)))) (dChain dLe dLe (dVar 1) (dVar 0) (dVar 2)))))
abbrev N_check_number : List Str := ["value", "least", "most"]
def S_check_number : DSpec := fun svs ret exc => ∃ (x : D) (l m : Int), svs = [.d x, .d (.int l), .d (.int m)] ∧ x.tyN.isSome = true ∧ (inFT x l m = true → ret .non [.un, .un, .un]) ∧ (inFT x l m = false → exc "InvalidNumber" x [.un, .un, .un])
def ds_check_number : DSv := (dIfS (dNot (dTest (dCall S_is_from_to [] (dCons (dVar 0) (dCons (dVar 1) (dCons (dVar 2) dNil))))))
  (dRaise "InvalidNumber" (dVar 0))
  dNext)
abbrev N_spans_of : List Str := ["periods", "first", "last"]
def S_spans_of : DSpec := fun svs ret exc => ∃ n : Nat, svs = [.d (.int n)] ∧ n ≤ 1000 ∧ ret (.lst ((spansL n).map (pr true))) [.un]
def ds_spans_of : DSv := (dRet (dFrz (dLc2 (dRng1 (dCons (dVar 0) dNil)) (dgName 1) dYes (dRng2 (dCons (dVar 1) (dCons (dVar 0) dNil))) (dgName 2) dYes (dTup (dCons (dVar 1) (dCons (dVar 2) dNil))) [1, 2] [2])))
abbrev N_all_spans : List Str := ["periods"]
def S_all_spans : DSpec := fun svs ret exc => ∃ x : D, svs = [.d x] ∧ x.tyN.isSome = true ∧ (∀ n : Nat, x = .int n → 1 ≤ n → n ≤ 24 → ret (.tup ((spansL n).map (pr true))) [.un]) ∧ (inFT x 1 24 = false → exc "InvalidNumber" x [.un])
def ds_all_spans_s1 : DSv := (dRet (dCB dTupOf (dCons (dCall S_spans_of [] (dCons (dVar 0) dNil)) dNil)))
def ds_all_spans : DSv := (dSeq (dDrop (dCall S_check_number [] (dCons (dVar 0) (dCons (dC (.int 1)) (dCons (dC (.int 24)) dNil)))))
  ds_all_spans_s1)
abbrev N__law_refused : List Str := ["odd", "e"]
def S__law_refused : DSpec := fun svs ret exc => ∃ x : D, svs = [.d x] ∧ inFT x 1 24 = false ∧ ((∃ v, x = .int v) ∨ (x.tyN.isSome = true ∧ (∀ v, x ≠ .int v) ∧ (∀ b, x ≠ .bl b) ∧ x.lay = true ∧ x.py.showable = true ∧ x.py.shown.length ≤ sizeLine ∧ (D.str x.txt).lay = true)) ∧ ret (.bl true) [.un]
def ds__law_refused_s1 : DSv := (dRet (dC (.bl false)))
def ds__law_refused : DSv := (dSeq (dTryAs errs "InvalidNumber" 1
  (dDrop (dCall S_all_spans [] (dCons (dVar 0) dNil)))
  (fun a cls dx => (dSeq (dIfS (dOr (dNot (dTest (dIsE errs "SlotError" a cls dx 1))) (dNot (dTest (dIsE errs "ValueError" a cls dx 1))))
  (dRet (dC (.bl false)))
  dNext)
  (dSeq (dIfS (dTest (dCB dIsi (dCons (dVar 0) (dCons (dC (.ty "int")) dNil))))
  (dRet (dAndV (dCB dIsi (dCons (dXf errs a cls dx 1 "number") (dCons (dC (.ty "int")) dNil))) (dAndV (dNotV (dCB dIsi (dCons (dXf errs a cls dx 1 "number") (dCons (dC (.ty "bool")) dNil)))) (dOp dEq (dXf errs a cls dx 1 "number") (dVar 0)))))
  dNext)
  (dRet (dOp dEq (dCB dRepr (dCons (dXf errs a cls dx 1 "number") dNil)) (dCB dRepr (dCons (dVar 0) dNil))))))))
  ds__law_refused_s1)
abbrev N__law_all : List Str := ["periods", "told", "at", "first", "last"]
def S__law_all : DSpec := fun svs ret exc => ∃ n : Nat, svs = [.d (.int n)] ∧ 1 ≤ n ∧ n ≤ 24 ∧ ret (.bl true) [.un]
def ds__law_all_b1 : DSv := (dSeq (dIfS (dNot (dTest (dCall S__law_same [] (dCons (dOp dIx (dVar 1) (dVar 2)) (dCons (dTup (dCons (dVar 3) (dCons (dVar 4) dNil))) dNil)))))
  (dRet (dC (.bl false)))
  dNext)
  (dAsg (dOp dAdd (dVar 2) (dC (.int 1))) (dgName 2)))
def ds__law_all_b2 : DSv := (dFor (dRng2 (dCons (dVar 3) (dCons (dVar 0) dNil))) (dgName 4)
  ds__law_all_b1)
def ds__law_all_s4 : DSv := (dRet (dC (.bl true)))
def ds__law_all_s3 : DSv := (dSeq (dFor (dRng1 (dCons (dVar 0) dNil)) (dgName 3)
  ds__law_all_b2)
  ds__law_all_s4)
def ds__law_all_s2 : DSv := (dSeq (dAsg (dC (.int 0)) (dgName 2))
  ds__law_all_s3)
def ds__law_all_s1 : DSv := (dSeq (dIfS (dOr (dNot (dTest (dCB dIsi (dCons (dVar 1) (dCons (dC (.ty "tuple")) dNil))))) (dTest (dOp dNe (dCB dLen (dCons (dVar 1) dNil)) (dOp (dI2 CDiv fun i j => .int (i / j)) (dOp (dI2 CMul fun i j => .int (i * j)) (dVar 0) (dOp dAdd (dVar 0) (dC (.int 1)))) (dC (.int 2))))))
  (dRet (dC (.bl false)))
  dNext)
  ds__law_all_s2)
def ds__law_all : DSv := (dSeq (dAsg (dCall S_all_spans [] (dCons (dVar 0) dNil)) (dgName 1))
  ds__law_all_s1)
abbrev N__law_periods : List Str := ["pair", "period"]
def S__law_periods : DSpec := fun svs ret exc => ∃ (p : Int × Int), svs = [.d (pr true p)] ∧ 0 ≤ p.1 ∧ p.1 ≤ p.2 ∧ p.2 < 1000 ∧ ret (.lst (DL.intsFrom p.1 (p.2 + 1 - p.1).toNat)) [.un]
def ds__law_periods : DSv := (dRet (dFrz (dLc (dRng2 (dCons (dOp dIx (dVar 0) (dC (.int 0))) (dCons (dOp dAdd (dOp dIx (dVar 0) (dC (.int 1))) (dC (.int 1))) dNil))) (dgName 1) dYes (dVar 1) [1])))
abbrev N__law_two : List Str := ["one", "other", "way", "mine", "yours", "both", "within_v", "part", "first", "second", "inner", "near", "period"]
def S__law_two : DSpec := fun svs ret exc => ∃ (p q : Int × Int) (w : Int), svs = [.d (pr true p), .d (pr true q), .d (.int w)] ∧ 0 ≤ p.1 ∧ p.1 ≤ p.2 ∧ p.2 < 24 ∧ 0 ≤ q.1 ∧ q.1 ≤ q.2 ∧ q.2 < 24 ∧ 0 ≤ w ∧ w < 4 ∧ ret (.bl true) [.un, .un, .un]
def ds__law_two_s12 : DSv := (dRet (dAndV (dOp dEq (dFrz (dCBO dListOf (dCons (dVar 8) dNil))) (dFrz (dCBO dListOf (dCons (dVar 0) dNil)))) (dOp dEq (dFrz (dCBO dListOf (dCons (dVar 9) dNil))) (dFrz (dCBO dListOf (dCons (dVar 1) dNil))))))
def ds__law_two_s11 : DSv := (dSeq (dIfS (dNot (dTest (dCall S__law_same [] (dCons (dCall S_common_part [] (dCons (dVar 8) (dCons (dVar 9) dNil))) (dCons (dVar 7) dNil)))))
  (dRet (dC (.bl false)))
  dNext)
  ds__law_two_s12)
def ds__law_two_s10 : DSv := (dSeq (dIfS (dOr (dNot (dTest (dCB dIsi (dCons (dVar 10) (dCons (dC (.ty "bool")) dNil))))) (dOr (dTest (dOp dNe (dVar 10) (dVar 6))) (dOr (dNot (dTest (dCB dIsi (dCons (dVar 11) (dCons (dC (.ty "bool")) dNil))))) (dTest (dOp dNe (dVar 11) (dOp dGt (dCB dLen (dCons (dVar 5) dNil)) (dC (.int 0))))))))
  (dRet (dC (.bl false)))
  dNext)
  ds__law_two_s11)
def ds__law_two_s9 : DSv := (dSeq (dAsg (dCall S_meets [] (dCons (dVar 8) (dCons (dVar 9) dNil))) (dgName 11))
  ds__law_two_s10)
def ds__law_two_s8 : DSv := (dSeq (dAsg (dCall S_lies_in [] (dCons (dVar 8) (dCons (dVar 9) dNil))) (dgName 10))
  ds__law_two_s9)
def ds__law_two_s7 : DSv := (dSeq (dAsg (dOp dIx (dFrz (dLst (dCons (dFrz (dCBO dListOf (dCons (dVar 1) dNil))) (dCons (dCB dTupOf (dCons (dVar 1) dNil)) dNil)))) (dOp (dI2 CDiv fun i j => .int (i / j)) (dVar 2) (dC (.int 2)))) (dgName 9))
  ds__law_two_s8)
def ds__law_two_s6 : DSv := (dSeq (dAsg (dOp dIx (dFrz (dLst (dCons (dFrz (dCBO dListOf (dCons (dVar 0) dNil))) (dCons (dCB dTupOf (dCons (dVar 0) dNil)) dNil)))) (dOp (dI2 (fun _ j => 0 < j) fun i j => .int (i % j)) (dVar 2) (dC (.int 2)))) (dgName 8))
  ds__law_two_s7)
def ds__law_two_s5 : DSv := (dSeq (dIfS (dTest (dOp dGt (dCB dLen (dCons (dVar 5) dNil)) (dC (.int 0))))
  (dAsg (dTup (dCons (dOp dIx (dVar 5) (dC (.int 0))) (dCons (dOp dIx (dVar 5) (dNeg (dC (.int 1)))) dNil))) (dgName 7))
  dNext)
  ds__law_two_s6)
def ds__law_two_s4 : DSv := (dSeq (dAsg (dC .non) (dgName 7))
  ds__law_two_s5)
def ds__law_two_s3 : DSv := (dSeq (dAsg (dOp dEq (dCB dLen (dCons (dVar 5) dNil)) (dCB dLen (dCons (dVar 3) dNil))) (dgName 6))
  ds__law_two_s4)
def ds__law_two_s2 : DSv := (dSeq (dAsg (dFrz (dLc (dIter (dVar 3)) (dgName 12) (dTest (dOp (dIn false) (dVar 12) (dVar 4))) (dVar 12) [12])) (dgName 5))
  ds__law_two_s3)
def ds__law_two_s1 : DSv := (dSeq (dAsg (dCall S__law_periods [] (dCons (dVar 1) dNil)) (dgName 4))
  ds__law_two_s2)
def ds__law_two : DSv := (dSeq (dAsg (dCall S__law_periods [] (dCons (dVar 0) dNil)) (dgName 3))
  ds__law_two_s1)
abbrev N_law : List Str := ["script", "source", "size", "turn", "one", "other", "way", "odds"]
abbrev S_law : DSpec := lawS
def ds_law_b1 : DSv := (dSeq (dAsg (dCall S__law_pair [] (dConsS 1 (dCons (dVar 2) dNil))) (dgName 4))
  (dSeq (dAsg (dCall S__law_beside [] (dConsS 1 (dCons (dVar 2) (dCons (dVar 4) dNil)))) (dgName 5))
  (dSeq (dAsg (dCall S__law_draw [] (dConsS 1 (dCons (dC (.int 4)) dNil))) (dgName 6))
  (dIfS (dOr (dNot (dTest (dCall S__law_two [] (dCons (dVar 4) (dCons (dVar 5) (dCons (dVar 6) dNil)))))) (dOr (dNot (dTest (dCall S__law_two [] (dCons (dVar 5) (dCons (dVar 4) (dCons (dVar 6) dNil)))))) (dNot (dTest (dCall S__law_two [] (dCons (dVar 4) (dCons (dVar 4) (dCons (dOp (dI0 fun i j => .int (i - j)) (dC (.int 3)) (dVar 6)) dNil))))))))
  (dRet (dC (.bl false)))
  dNext))))
def ds_law_b2 : DSv := (dIfS (dNot (dTest (dCall S__law_refused [] (dCons (dOp dIx (dVar 7) (dCall S__law_draw [] (dConsS 1 (dCons (dCB dLen (dCons (dVar 7) dNil)) dNil)))) dNil))))
  (dRet (dC (.bl false)))
  dNext)
def ds_law_s6 : DSv := (dRet (dCall S__law_scene [] dNil))
def ds_law_s5 : DSv := (dSeq (dIfS (dOr (dNot (dTest (dCall S__law_all [] (dCons (dVar 2) dNil)))) (dNot (dTest (dCall S__law_all [] (dCons (dOp dIx (dFrz (dLst (dCons (dC (.int 1)) (dCons (dC (.int 2)) (dCons (dC (.int 23)) (dCons (dC (.int 24)) dNil)))))) (dCall S__law_draw [] (dConsS 1 (dCons (dC (.int 4)) dNil)))) dNil)))))
  (dRet (dC (.bl false)))
  dNext)
  ds_law_s6)
def ds_law_s4 : DSv := (dSeq (dFor (dRng1 (dCons (dC (.int 2)) dNil)) (dgName 3)
  ds_law_b2)
  ds_law_s5)
def ds_law_s3 : DSv := (dSeq (dAsg (dFrz (dLst (dCons (dC (.int 0)) (dCons (dC (.int 25)) (dCons (dNeg (dC (.int 1))) (dCons (dC .non) (dCons (dC (.str "3")) (dCons (dTup (dCons (dC (.int 3)) dNil)) (dCons (dFrz (dLst (dCons (dC (.int 2)) dNil))) (dCons (dOp dAdd (dC (.int 25)) (dCall S__law_draw [] (dConsS 1 (dCons (dC (.int 1000)) dNil)))) (dCons (dOp (dI0 fun i j => .int (i - j)) (dC (.int 0)) (dCall S__law_draw [] (dConsS 1 (dCons (dC (.int 1000)) dNil)))) (dCons (dOp (dI2 CPow fun i j => .int (i ^ j.toNat)) (dC (.int 10)) (dC (.int 30))) dNil)))))))))))) (dgName 7))
  ds_law_s4)
def ds_law_s2 : DSv := (dSeq (dFor (dRng1 (dCons (dC (.int 8)) dNil)) (dgName 3)
  ds_law_b1)
  ds_law_s3)
def ds_law_s1 : DSv := (dHide 1 SrcP (dSeq (dAsg (dOp dAdd (dC (.int 1)) (dCall S__law_draw [] (dConsS 1 (dCons (dC (.int 24)) dNil)))) (dgName 2))
  ds_law_s2))
def ds_law : DSv := (dSeq (dAsgO (dCallO S__law_source [] (dCons (dVar 0) dNil)) 1)
  ds_law_s1)
end LW
namespace LW
open PySem PySem.Spec PyProof.Rows L2 DLU DLR DL HD

theorem sc__law_source : FnScope N__law_source ["script"] (defScope s__law_source) := ⟨rfl, rfl, rfl, by decide +kernel, rfl, by decide +kernel, by decide +kernel⟩
theorem dv__law_source {P : Program} {w : World} {K : PySem.W.Frag} {mg : Str → Option Value} {base : Heap} (B : Mg mg) (ER : Er P K mg)  {f : Addr} (cdv : Value) (A : Around) (outer : List Env) (s : Shared) (H : Hp) (E : XK) (m : Option (Addr × Obj)) (b : BodyOk (cxU P w K mg base N__law_source "_law_source" (defScope s__law_source) f cdv A outer s H E m) (WD E) 0 false) :
    ∃ ts, DSs (cxU P w K mg base N__law_source "_law_source" (defScope s__law_source) f cdv A outer s H E m) (WD E) (defBody s__law_source) ts ds__law_source := by
  obtain ⟨hr, mo, tk, pso⟩ := b
  have hc := mo.c
  exact ⟨_, (dss_cons (ds_set 1 sc__law_source.nd de_int rfl (Or.inl rfl))
  (dss_cons (ds_setO 2 sc__law_source.nd (do_lst da_nil) rfl (Or.inl rfl))
  (dss_cons (ds_for pso hc (di_seq (de_sl (de_var 0 rfl (Or.inl rfl)) dp_none (dp_some de_int))) (dg_name 3 sc__law_source.nd rfl (Or.inl rfl))
  (dss_cons (ds_if (dt_ge (de_var 3 rfl (Or.inl rfl)) (de_pow de_int de_int))
  (dss_one (ds_expr (de_met sim_mApp (fun pa => pe_bm PySem.F.plainAttrs_list PySem.F.slot_list_append PySem.F.type_list_append mt_append (pe_var (i := 2) rfl (Or.inl rfl)) pa) (da_cons (de_var 3 rfl (Or.inl rfl)) da_nil))))
  dss_nil)
  (dss_cons (ds_set 1 sc__law_source.nd (de_mod (de_tyc call_int1 sim_int B.b_int bt_int (da_cons (de_add (de_mul (de_var 1 rfl (Or.inl rfl)) (de_var 1 rfl (Or.inl rfl))) (de_var 3 rfl (Or.inl rfl))) da_nil)) de_int) rfl (Or.inl rfl))
  (dss_one (ds_set 1 sc__law_source.nd (de_mod (de_tyc call_int1 sim_int B.b_int bt_int (da_cons (de_add (de_mul (de_var 1 rfl (Or.inl rfl)) (de_var 1 rfl (Or.inl rfl))) de_int) da_nil)) de_int) rfl (Or.inl rfl))))))
  (DSs.still 2 (dss_one (ds_retO (do_lst (da_cons (de_var 1 rfl (Or.inl rfl)) (da_cons de_int (da_cons de_int (da_cons (de_var 2 rfl (Or.inl rfl)) da_nil)))))))))))⟩
theorem sc__law_same : FnScope N__law_same ["actual", "due"] (defScope s__law_same) := ⟨rfl, rfl, rfl, by decide +kernel, rfl, by decide +kernel, by decide +kernel⟩
theorem dv__law_same {P : Program} {w : World} {K : PySem.W.Frag} {mg : Str → Option Value} {base : Heap} (B : Mg mg) (ER : Er P K mg)  {f : Addr} (cdv : Value) (A : Around) (outer : List Env) (s : Shared) (H : Hp) (E : XK) (m : Option (Addr × Obj)) (b : BodyOk (cxU P w K mg base N__law_same "_law_same" (defScope s__law_same) f cdv A outer s H E m) (WD E) 0 false) :
    ∃ ts, DSs (cxU P w K mg base N__law_same "_law_same" (defScope s__law_same) f cdv A outer s H E m) (WD E) (defBody s__law_same) ts ds__law_same := by
  obtain ⟨hr, mo, tk, pso⟩ := b
  have hc := mo.c
  exact ⟨_, (dss_cons (ds_if (dt_isN (de_var 1 rfl (Or.inl rfl)) de_non)
  (dss_one (ds_ret (de_isN (de_var 0 rfl (Or.inl rfl)) de_non)))
  dss_nil)
  (dss_cons (ds_if (DW.pt (dw_or (dt_not (dt_val (de_blt call_isi sim_isi B.b_isinstance bt_isinstance (da_cons (de_var 0 rfl (Or.inl rfl)) (da_cons (de_ty rfl B.b_tuple bt_tuple) da_nil))))) (dw_or1 (dt_ne hr (de_blt call_len sim_len B.b_len bt_len (da_cons (de_var 0 rfl (Or.inl rfl)) da_nil)) de_int))))
  (dss_one (ds_ret de_bl))
  dss_nil)
  (dss_cons (ds_for pso hc (di_range1 B.b_range (da_cons de_int da_nil)) (dg_name 2 sc__law_same.nd rfl (Or.inl rfl))
  (dss_one (ds_if (DW.pt (dw_or (dt_not (dt_val (de_blt call_isi sim_isi B.b_isinstance bt_isinstance (da_cons (de_ix (de_var 0 rfl (Or.inl rfl)) (de_var 2 rfl (Or.inl rfl))) (da_cons (de_ty rfl B.b_int bt_int) da_nil))))) (dw_or (dt_val (de_blt call_isi sim_isi B.b_isinstance bt_isinstance (da_cons (de_ix (de_var 0 rfl (Or.inl rfl)) (de_var 2 rfl (Or.inl rfl))) (da_cons (de_ty rfl B.b_bool bt_bool) da_nil)))) (dw_or1 (dt_ne hr (de_ix (de_var 0 rfl (Or.inl rfl)) (de_var 2 rfl (Or.inl rfl))) (de_ix (de_var 1 rfl (Or.inl rfl)) (de_var 2 rfl (Or.inl rfl))))))))
  (dss_one (ds_ret de_bl))
  dss_nil)))
  (dss_one (ds_ret de_bl)))))⟩
theorem sc_within : FnScope N_within ["one", "other"] (defScope s_within) := ⟨rfl, rfl, rfl, by decide +kernel, rfl, by decide +kernel, by decide +kernel⟩
theorem dv_within {P : Program} {w : World} {K : PySem.W.Frag} {mg : Str → Option Value} {base : Heap} (B : Mg mg) (ER : Er P K mg)  {f : Addr} (cdv : Value) (A : Around) (outer : List Env) (s : Shared) (H : Hp) (E : XK) (m : Option (Addr × Obj)) (b : BodyOk (cxU P w K mg base N_within "within" (defScope s_within) f cdv A outer s H E m) (WD E) 0 false) :
    ∃ ts, DSs (cxU P w K mg base N_within "within" (defScope s_within) f cdv A outer s H E m) (WD E) (defBody s_within) ts ds_within := by
  obtain ⟨hr, mo, tk, pso⟩ := b
  have hc := mo.c
  exact ⟨_, (dss_one (ds_ret (de_and (de_le (de_ix (de_var 1 rfl (Or.inl rfl)) de_int) (de_ix (de_var 0 rfl (Or.inl rfl)) de_int)) (de_one (de_le (de_ix (de_var 0 rfl (Or.inl rfl)) de_int) (de_ix (de_var 1 rfl (Or.inl rfl)) de_int))))))⟩
theorem sc_lies_in : FnScope N_lies_in ["one", "other"] (defScope s_lies_in) := ⟨rfl, rfl, rfl, by decide +kernel, rfl, by decide +kernel, by decide +kernel⟩
theorem dv_lies_in {P : Program} {w : World} {K : PySem.W.Frag} {mg : Str → Option Value} {base : Heap} (B : Mg mg) (ER : Er P K mg) (c_within : Fn P w K mg base false "within" 1 ["one", "other"] [] S_within) {f : Addr} (cdv : Value) (A : Around) (outer : List Env) (s : Shared) (H : Hp) (E : XK) (m : Option (Addr × Obj)) (b : BodyOk (cxU P w K mg base N_lies_in "lies_in" (defScope s_lies_in) f cdv A outer s H E m) (WD E) 1 false) :
    ∃ ts, DSs (cxU P w K mg base N_lies_in "lies_in" (defScope s_lies_in) f cdv A outer s H E m) (WD E) (defBody s_lies_in) ts ds_lies_in := by
  obtain ⟨hr, mo, tk, pso⟩ := b
  have hc := mo.c
  exact ⟨_, (dss_one (ds_ret (de_call c_within hr (.calm hc) (CallOk.of tk) (da_cons (de_var 0 rfl (Or.inl rfl)) (da_cons (de_var 1 rfl (Or.inl rfl)) da_nil)))))⟩
theorem sc_meets : FnScope N_meets ["one", "other"] (defScope s_meets) := ⟨rfl, rfl, rfl, by decide +kernel, rfl, by decide +kernel, by decide +kernel⟩
theorem dv_meets {P : Program} {w : World} {K : PySem.W.Frag} {mg : Str → Option Value} {base : Heap} (B : Mg mg) (ER : Er P K mg)  {f : Addr} (cdv : Value) (A : Around) (outer : List Env) (s : Shared) (H : Hp) (E : XK) (m : Option (Addr × Obj)) (b : BodyOk (cxU P w K mg base N_meets "meets" (defScope s_meets) f cdv A outer s H E m) (WD E) 0 false) :
    ∃ ts, DSs (cxU P w K mg base N_meets "meets" (defScope s_meets) f cdv A outer s H E m) (WD E) (defBody s_meets) ts ds_meets := by
  obtain ⟨hr, mo, tk, pso⟩ := b
  have hc := mo.c
  exact ⟨_, (dss_one (ds_ret (de_le (de_blt (call_max2 hc) sim_i2 B.b_max bt_max (da_cons (de_ix (de_var 0 rfl (Or.inl rfl)) de_int) (da_cons (de_ix (de_var 1 rfl (Or.inl rfl)) de_int) da_nil))) (de_blt (call_min2 hc) sim_i2 B.b_min bt_min (da_cons (de_ix (de_var 0 rfl (Or.inl rfl)) de_int) (da_cons (de_ix (de_var 1 rfl (Or.inl rfl)) de_int) da_nil))))))⟩
theorem sc_common_part : FnScope N_common_part ["one", "other"] (defScope s_common_part) := ⟨rfl, rfl, rfl, by decide +kernel, rfl, by decide +kernel, by decide +kernel⟩
theorem dv_common_part {P : Program} {w : World} {K : PySem.W.Frag} {mg : Str → Option Value} {base : Heap} (B : Mg mg) (ER : Er P K mg) (c_meets : Fn P w K mg base false "meets" 1 ["one", "other"] [] S_meets) {f : Addr} (cdv : Value) (A : Around) (outer : List Env) (s : Shared) (H : Hp) (E : XK) (m : Option (Addr × Obj)) (b : BodyOk (cxU P w K mg base N_common_part "common_part" (defScope s_common_part) f cdv A outer s H E m) (WD E) 1 false) :
    ∃ ts, DSs (cxU P w K mg base N_common_part "common_part" (defScope s_common_part) f cdv A outer s H E m) (WD E) (defBody s_common_part) ts ds_common_part := by
  obtain ⟨hr, mo, tk, pso⟩ := b
  have hc := mo.c
  exact ⟨_, (dss_cons (ds_if (dt_not (dt_val (de_call c_meets hr (.calm hc) (CallOk.of tk) (da_cons (de_var 0 rfl (Or.inl rfl)) (da_cons (de_var 1 rfl (Or.inl rfl)) da_nil)))))
  (dss_one (ds_ret de_non))
  dss_nil)
  (dss_one (ds_ret (de_tup (da_cons (de_blt (call_max2 hc) sim_i2 B.b_max bt_max (da_cons (de_ix (de_var 0 rfl (Or.inl rfl)) de_int) (da_cons (de_ix (de_var 1 rfl (Or.inl rfl)) de_int) da_nil))) (da_cons (de_blt (call_min2 hc) sim_i2 B.b_min bt_min (da_cons (de_ix (de_var 0 rfl (Or.inl rfl)) de_int) (da_cons (de_ix (de_var 1 rfl (Or.inl rfl)) de_int) da_nil))) da_nil))))))⟩
theorem sc__law_scene : FnScope N__law_scene [] (defScope s__law_scene) := ⟨rfl, rfl, rfl, by decide +kernel, rfl, by decide +kernel, by decide +kernel⟩
theorem dv__law_scene {P : Program} {w : World} {K : PySem.W.Frag} {mg : Str → Option Value} {base : Heap} (B : Mg mg) (ER : Er P K mg) (c_lies_in : Fn P w K mg base false "lies_in" 2 ["one", "other"] [] S_lies_in) (c_meets : Fn P w K mg base false "meets" 1 ["one", "other"] [] S_meets) (c__law_same : Fn P w K mg base false "_law_same" 1 ["actual", "due"] [] S__law_same) (c_common_part : Fn P w K mg base false "common_part" 2 ["one", "other"] [] S_common_part) {f : Addr} (cdv : Value) (A : Around) (outer : List Env) (s : Shared) (H : Hp) (E : XK) (m : Option (Addr × Obj)) (b : BodyOk (cxU P w K mg base N__law_scene "_law_scene" (defScope s__law_scene) f cdv A outer s H E m) (WD E) 2 false) :
    ∃ ts, DSs (cxU P w K mg base N__law_scene "_law_scene" (defScope s__law_scene) f cdv A outer s H E m) (WD E) (defBody s__law_scene) ts ds__law_scene := by
  obtain ⟨hr, mo, tk, pso⟩ := b
  have hc := mo.c
  exact ⟨_, (dss_cons (ds_if (DW.pt (dw_or (dt_notB (de_call c_lies_in hr (.calm hc) (CallOk.of tk) (da_cons (de_tup (da_cons de_int (da_cons de_int da_nil))) (da_cons (de_tup (da_cons de_int (da_cons de_int da_nil))) da_nil))) de_bl) (dw_or (dt_notB (de_call c_lies_in hr (.calm hc) (CallOk.of tk) (da_cons (de_tup (da_cons de_int (da_cons de_int da_nil))) (da_cons (de_tup (da_cons de_int (da_cons de_int da_nil))) da_nil))) de_bl) (dw_or1 (dt_notB (de_call c_lies_in hr (.calm hc) (CallOk.of tk) (da_cons (DO.frz (do_lst (da_cons de_int (da_cons de_int da_nil)))) (da_cons (DO.frz (do_lst (da_cons de_int (da_cons de_int da_nil)))) da_nil))) de_bl)))))
  (dss_one (ds_ret de_bl))
  dss_nil)
  (dss_cons (ds_if (DW.pt (dw_or (dt_notB (de_call c_meets hr (.calm hc) (CallOk.of tk) (da_cons (de_tup (da_cons de_int (da_cons de_int da_nil))) (da_cons (de_tup (da_cons de_int (da_cons de_int da_nil))) da_nil))) de_bl) (dw_or (dt_notB (de_call c_meets hr (.calm hc) (CallOk.of tk) (da_cons (de_tup (da_cons de_int (da_cons de_int da_nil))) (da_cons (de_tup (da_cons de_int (da_cons de_int da_nil))) da_nil))) de_bl) (dw_or1 (dt_notB (de_call c_meets hr (.calm hc) (CallOk.of tk) (da_cons (DO.frz (do_lst (da_cons de_int (da_cons de_int da_nil)))) (da_cons (DO.frz (do_lst (da_cons de_int (da_cons de_int da_nil)))) da_nil))) de_bl)))))
  (dss_one (ds_ret de_bl))
  dss_nil)
  (dss_cons (ds_if (DW.pt (dw_or (dt_not (dt_val (de_call c__law_same hr (.calm hc) (CallOk.of tk) (da_cons (de_call c_common_part hr (.calm hc) (CallOk.of tk) (da_cons (de_tup (da_cons de_int (da_cons de_int da_nil))) (da_cons (de_tup (da_cons de_int (da_cons de_int da_nil))) da_nil))) (da_cons (de_tup (da_cons de_int (da_cons de_int da_nil))) da_nil))))) (dw_or1 (dt_notN (de_call c_common_part hr (.calm hc) (CallOk.of tk) (da_cons (de_tup (da_cons de_int (da_cons de_int da_nil))) (da_cons (de_tup (da_cons de_int (da_cons de_int da_nil))) da_nil))) de_non))))
  (dss_one (ds_ret de_bl))
  dss_nil)
  (dss_one (ds_ret (de_and (de_call c__law_same hr (.calm hc) (CallOk.of tk) (da_cons (de_call c_common_part hr (.calm hc) (CallOk.of tk) (da_cons (DO.frz (do_lst (da_cons de_int (da_cons de_int da_nil)))) (da_cons (DO.frz (do_lst (da_cons de_int (da_cons de_int da_nil)))) da_nil))) (da_cons (de_tup (da_cons de_int (da_cons de_int da_nil))) da_nil))) (de_one (de_isB (de_call c_lies_in hr (.calm hc) (CallOk.of tk) (da_cons (de_tup (da_cons de_int (da_cons de_int da_nil))) (da_cons (de_tup (da_cons de_int (da_cons de_int da_nil))) da_nil))) de_bl))))))))⟩
theorem sc__law_draw : FnScope N__law_draw ["source", "many"] (defScope s__law_draw) := ⟨rfl, rfl, rfl, by decide +kernel, rfl, by decide +kernel, by decide +kernel⟩
theorem dv__law_draw {P : Program} {w : World} {K : PySem.W.Frag} {mg : Str → Option Value} {base : Heap} (B : Mg mg) (ER : Er P K mg)  {f : Addr} (cdv : Value) (A : Around) (outer : List Env) (s : Shared) (H : Hp) (E : XK) (m : Option (Addr × Obj)) (b : BodyOk (cxU P w K mg base N__law_draw "_law_draw" (defScope s__law_draw) f cdv A outer s H E m) (WD E) 0 false) :
    ∃ ts, DSs (cxU P w K mg base N__law_draw "_law_draw" (defScope s__law_draw) f cdv A outer s H E m) (WD E) (defBody s__law_draw) ts ds__law_draw := by
  obtain ⟨hr, mo, tk, pso⟩ := b
  have hc := mo.c
  exact ⟨_, (DSs.opn 0 (dss_cons (ds_set 2 sc__law_draw.nd (de_ixO 0 (pe_var (i := 0) rfl (Or.inl rfl)) de_int) rfl (Or.inl rfl))
  (dss_cons (ds_if (DW.pt (dw_and (dt_eq hr (de_ixO 0 (pe_var (i := 0) rfl (Or.inl rfl)) de_int) de_int) (dw_and1 (dt_lt (de_ixO 0 (pe_var (i := 0) rfl (Or.inl rfl)) de_int) (de_blt call_len sim_len B.b_len bt_len (da_cons (de_var 2 rfl (Or.inl rfl)) da_nil))))))
  (dss_cons (ds_setI 0 (pe_var (i := 0) rfl (Or.inl rfl)) (de_ix (de_var 2 rfl (Or.inl rfl)) (de_ixO 0 (pe_var (i := 0) rfl (Or.inl rfl)) de_int)) de_int)
  (dss_one (ds_setI 0 (pe_var (i := 0) rfl (Or.inl rfl)) (de_add (de_ixO 0 (pe_var (i := 0) rfl (Or.inl rfl)) de_int) de_int) de_int)))
  dss_nil)
  (dss_cons (ds_if (dt_gt (de_ixO 0 (pe_var (i := 0) rfl (Or.inl rfl)) de_int) de_int)
  (dss_cons (ds_set 3 sc__law_draw.nd (de_mod (de_tyc call_int1 sim_int B.b_int bt_int (da_cons (de_ixO 0 (pe_var (i := 0) rfl (Or.inl rfl)) de_int) da_nil)) (de_var 1 rfl (Or.inl rfl))) rfl (Or.inl rfl))
  (dss_cons (ds_setI 0 (pe_var (i := 0) rfl (Or.inl rfl)) (de_fdiv (de_ixO 0 (pe_var (i := 0) rfl (Or.inl rfl)) de_int) (de_var 1 rfl (Or.inl rfl))) de_int)
  (dss_one (ds_ret (de_var 3 rfl (Or.inl rfl))))))
  dss_nil)
  (dss_cons (ds_setI 0 (pe_var (i := 0) rfl (Or.inl rfl)) (de_mod (de_tyc call_int1 sim_int B.b_int bt_int (da_cons (de_add (de_mul (de_ixO 0 (pe_var (i := 0) rfl (Or.inl rfl)) de_int) (de_ixO 0 (pe_var (i := 0) rfl (Or.inl rfl)) de_int)) de_int) da_nil)) de_int) de_int)
  (dss_one (ds_ret (de_mod (de_tyc call_int1 sim_int B.b_int bt_int (da_cons (de_fdiv (de_ixO 0 (pe_var (i := 0) rfl (Or.inl rfl)) de_int) de_int) da_nil)) (de_var 1 rfl (Or.inl rfl))))))))))⟩
theorem sc__law_pair : FnScope N__law_pair ["source", "size"] (defScope s__law_pair) := ⟨rfl, rfl, rfl, by decide +kernel, rfl, by decide +kernel, by decide +kernel⟩
theorem dv__law_pair {P : Program} {w : World} {K : PySem.W.Frag} {mg : Str → Option Value} {base : Heap} (B : Mg mg) (ER : Er P K mg) (c__law_draw : Fn P w K mg base false "_law_draw" 1 ["source", "many"] [] S__law_draw) {f : Addr} (cdv : Value) (A : Around) (outer : List Env) (s : Shared) (H : Hp) (E : XK) (m : Option (Addr × Obj)) (b : BodyOk (cxU P w K mg base N__law_pair "_law_pair" (defScope s__law_pair) f cdv A outer s H E m) (WD E) 1 false) :
    ∃ ts, DSs (cxU P w K mg base N__law_pair "_law_pair" (defScope s__law_pair) f cdv A outer s H E m) (WD E) (defBody s__law_pair) ts ds__law_pair := by
  obtain ⟨hr, mo, tk, pso⟩ := b
  have hc := mo.c
  exact ⟨_, (dss_cons (ds_set 2 sc__law_pair.nd (de_call c__law_draw hr (.calm hc) (CallOk.of tk) (da_consS 0 (pe_var (i := 0) rfl (Or.inl rfl)) (da_cons (de_var 1 rfl (Or.inl rfl)) da_nil))) rfl (Or.inl rfl))
  (dss_one (ds_ret (de_tup (da_cons (de_var 2 rfl (Or.inl rfl)) (da_cons (de_add (de_var 2 rfl (Or.inl rfl)) (de_call c__law_draw hr (.calm hc) (CallOk.of tk) (da_consS 0 (pe_var (i := 0) rfl (Or.inl rfl)) (da_cons (de_sub (de_var 1 rfl (Or.inl rfl)) (de_var 2 rfl (Or.inl rfl))) da_nil)))) da_nil))))))⟩
theorem sc__law_beside : FnScope N__law_beside ["source", "size", "pair"] (defScope s__law_beside) := ⟨rfl, rfl, rfl, by decide +kernel, rfl, by decide +kernel, by decide +kernel⟩
theorem dv__law_beside {P : Program} {w : World} {K : PySem.W.Frag} {mg : Str → Option Value} {base : Heap} (B : Mg mg) (ER : Er P K mg) (c__law_draw : Fn P w K mg base false "_law_draw" 1 ["source", "many"] [] S__law_draw) (c__law_pair : Fn P w K mg base false "_law_pair" 2 ["source", "size"] [] S__law_pair) {f : Addr} (cdv : Value) (A : Around) (outer : List Env) (s : Shared) (H : Hp) (E : XK) (m : Option (Addr × Obj)) (b : BodyOk (cxU P w K mg base N__law_beside "_law_beside" (defScope s__law_beside) f cdv A outer s H E m) (WD E) 2 false) :
    ∃ ts, DSs (cxU P w K mg base N__law_beside "_law_beside" (defScope s__law_beside) f cdv A outer s H E m) (WD E) (defBody s__law_beside) ts ds__law_beside := by
  obtain ⟨hr, mo, tk, pso⟩ := b
  have hc := mo.c
  exact ⟨_, (dss_cons (ds_set 3 sc__law_beside.nd (de_call c__law_draw hr (.calm hc) (CallOk.of tk) (da_consS 0 (pe_var (i := 0) rfl (Or.inl rfl)) (da_cons de_int da_nil))) rfl (Or.inl rfl))
  (dss_cons (ds_if (DW.pt (dw_and (dt_eq hr (de_var 3 rfl (Or.inl rfl)) de_int) (dw_and1 (dt_lt (de_add (de_ix (de_var 2 rfl (Or.inl rfl)) de_int) de_int) (de_var 1 rfl (Or.inl rfl))))))
  (dss_cons (ds_set 4 sc__law_beside.nd (de_add (de_ix (de_var 2 rfl (Or.inl rfl)) de_int) de_int) rfl (Or.inl rfl))
  (dss_one (ds_ret (de_tup (da_cons (de_var 4 rfl (Or.inl rfl)) (da_cons (de_add (de_var 4 rfl (Or.inl rfl)) (de_call c__law_draw hr (.calm hc) (CallOk.of tk) (da_consS 0 (pe_var (i := 0) rfl (Or.inl rfl)) (da_cons (de_sub (de_var 1 rfl (Or.inl rfl)) (de_var 4 rfl (Or.inl rfl))) da_nil)))) da_nil))))))
  dss_nil)
  (dss_cons (ds_if (DW.pt (dw_and (dt_eq hr (de_var 3 rfl (Or.inl rfl)) de_int) (dw_and1 (dt_gt (de_ix (de_var 2 rfl (Or.inl rfl)) de_int) de_int))))
  (dss_one (ds_ret (de_tup (da_cons (de_call c__law_draw hr (.calm hc) (CallOk.of tk) (da_consS 0 (pe_var (i := 0) rfl (Or.inl rfl)) (da_cons (de_ix (de_var 2 rfl (Or.inl rfl)) de_int) da_nil))) (da_cons (de_add (de_sub (de_ix (de_var 2 rfl (Or.inl rfl)) de_int) de_int) (de_call c__law_draw hr (.calm hc) (CallOk.of tk) (da_consS 0 (pe_var (i := 0) rfl (Or.inl rfl)) (da_cons de_int da_nil)))) da_nil)))))
  dss_nil)
  (dss_cons (ds_if (dt_eq hr (de_var 3 rfl (Or.inl rfl)) de_int)
  (dss_cons (ds_set 4 sc__law_beside.nd (de_blt (call_min2 hc) sim_i2 B.b_min bt_min (da_cons (de_sub (de_var 1 rfl (Or.inl rfl)) de_int) (da_cons (de_blt (call_max2 hc) sim_i2 B.b_max bt_max (da_cons de_int (da_cons (de_add (de_sub (de_ix (de_var 2 rfl (Or.inl rfl)) de_int) de_int) (de_call c__law_draw hr (.calm hc) (CallOk.of tk) (da_consS 0 (pe_var (i := 0) rfl (Or.inl rfl)) (da_cons de_int da_nil)))) da_nil))) da_nil))) rfl (Or.inl rfl))
  (dss_one (ds_ret (de_tup (da_cons (de_var 4 rfl (Or.inl rfl)) (da_cons (de_blt (call_min2 hc) sim_i2 B.b_min bt_min (da_cons (de_sub (de_var 1 rfl (Or.inl rfl)) de_int) (da_cons (de_blt (call_max2 hc) sim_i2 B.b_max bt_max (da_cons (de_var 4 rfl (Or.inl rfl)) (da_cons (de_add (de_sub (de_ix (de_var 2 rfl (Or.inl rfl)) de_int) de_int) (de_call c__law_draw hr (.calm hc) (CallOk.of tk) (da_consS 0 (pe_var (i := 0) rfl (Or.inl rfl)) (da_cons de_int da_nil)))) da_nil))) da_nil))) da_nil))))))
  dss_nil)
  (dss_one (ds_ret (de_call c__law_pair hr (.calm hc) (CallOk.of tk) (da_consS 0 (pe_var (i := 0) rfl (Or.inl rfl)) (da_cons (de_var 1 rfl (Or.inl rfl)) da_nil)))))))))⟩
theorem sc_is_from_to : FnScope N_is_from_to ["value", "least", "most"] (defScope s_is_from_to) := ⟨rfl, rfl, rfl, by decide +kernel, rfl, by decide +kernel, by decide +kernel⟩
theorem dv_is_from_to {P : Program} {w : World} {K : PySem.W.Frag} {mg : Str → Option Value} {base : Heap} (B : Mg mg) (ER : Er P K mg)  {f : Addr} (cdv : Value) (A : Around) (outer : List Env) (s : Shared) (H : Hp) (E : XK) (m : Option (Addr × Obj)) (b : BodyOk (cxU P w K mg base N_is_from_to "is_from_to" (defScope s_is_from_to) f cdv A outer s H E m) (WD E) 0 false) :
    ∃ ts, DSs (cxU P w K mg base N_is_from_to "is_from_to" (defScope s_is_from_to) f cdv A outer s H E m) (WD E) (defBody s_is_from_to) ts ds_is_from_to := by
  obtain ⟨hr, mo, tk, pso⟩ := b
  have hc := mo.c
  exact ⟨_, (dss_one (ds_ret (de_and (de_blt call_isi sim_isi B.b_isinstance bt_isinstance (da_cons (de_var 0 rfl (Or.inl rfl)) (da_cons (de_ty rfl B.b_int bt_int) da_nil))) (de_and (de_not (de_blt call_isi sim_isi B.b_isinstance bt_isinstance (da_cons (de_var 0 rfl (Or.inl rfl)) (da_cons (de_ty rfl B.b_bool bt_bool) da_nil)))) (de_one (de_chain op_le simB0 op_le simB0 (de_var 1 rfl (Or.inl rfl)) (de_var 0 rfl (Or.inl rfl)) (de_var 2 rfl (Or.inl rfl))))))))⟩
theorem sc_check_number : FnScope N_check_number ["value", "least", "most"] (defScope s_check_number) := ⟨rfl, rfl, rfl, by decide +kernel, rfl, by decide +kernel, by decide +kernel⟩
theorem dv_check_number {P : Program} {w : World} {K : PySem.W.Frag} {mg : Str → Option Value} {base : Heap} (B : Mg mg) (ER : Er P K mg) (c_is_from_to : Fn P w K mg base false "is_from_to" 1 ["value", "least", "most"] [] S_is_from_to) {f : Addr} (cdv : Value) (A : Around) (outer : List Env) (s : Shared) (H : Hp) (E : XK) (m : Option (Addr × Obj)) (b : BodyOk (cxU P w K mg base N_check_number "check_number" (defScope s_check_number) f cdv A outer s H E m) (WD E) 1 false) :
    ∃ ts, DSs (cxU P w K mg base N_check_number "check_number" (defScope s_check_number) f cdv A outer s H E m) (WD E) (defBody s_check_number) ts ds_check_number := by
  obtain ⟨hr, mo, tk, pso⟩ := b
  have hc := mo.c
  exact ⟨_, (dss_one (ds_if (dt_not (dt_val (de_call c_is_from_to hr (.calm hc) (CallOk.of tk) (da_cons (de_var 0 rfl (Or.inl rfl)) (da_cons (de_var 1 rfl (Or.inl rfl)) (da_cons (de_var 2 rfl (Or.inl rfl)) da_nil))))))
  (dss_one (ds_raise (nm := "InvalidNumber") ER.e_InvalidNumber row_InvalidNumber ER.m rfl rfl ER.g_InvalidNumber hr (.calm hc) tk (de_var 0 rfl (Or.inl rfl))))
  dss_nil))⟩
theorem sc_spans_of : FnScope N_spans_of ["periods"] (defScope s_spans_of) := ⟨rfl, rfl, rfl, by decide +kernel, rfl, by decide +kernel, by decide +kernel⟩
theorem dv_spans_of {P : Program} {w : World} {K : PySem.W.Frag} {mg : Str → Option Value} {base : Heap} (B : Mg mg) (ER : Er P K mg)  {f : Addr} (cdv : Value) (A : Around) (outer : List Env) (s : Shared) (H : Hp) (E : XK) (m : Option (Addr × Obj)) (b : BodyOk (cxU P w K mg base N_spans_of "spans_of" (defScope s_spans_of) f cdv A outer s H E m) (WD E) 0 false) :
    ∃ ts, DSs (cxU P w K mg base N_spans_of "spans_of" (defScope s_spans_of) f cdv A outer s H E m) (WD E) (defBody s_spans_of) ts ds_spans_of := by
  obtain ⟨hr, mo, tk, pso⟩ := b
  have hc := mo.c
  exact ⟨_, (dss_one (ds_ret (DO.frz (do_lc2X hc sc_spans_of.nd (di_range1 B.b_range (da_cons (de_var 0 rfl (Or.inr (Or.inl rfl))) da_nil)) (blkOk_by (N := N_spans_of) (sc := defScope s_spans_of) (own := [("first", 1), ("last", 2)]) (by decide +kernel)) (by decide) (fun _ _ _ _ _ => ⟨_, (dg_name 1 sc_spans_of.nd rfl (Or.inl rfl) (by exact .inr rfl))⟩) (fun _ _ _ _ _ => ⟨_, dts_nil⟩) (fun _ _ _ _ _ => ⟨_, (di_range2 B.b_range (da_cons (de_var 1 rfl (Or.inl rfl)) (da_cons (de_var 0 rfl (by first | exact Or.inr (Or.inl rfl) | exact Or.inr (Or.inr rfl))) da_nil)))⟩) (fun _ _ _ _ _ => ⟨_, (dg_name 2 sc_spans_of.nd rfl (Or.inl rfl) (by exact .inr rfl))⟩) (fun _ _ _ _ _ => ⟨_, dts_nil⟩) (fun _ _ _ _ _ => ⟨_, (de_tup (da_cons (de_var 1 rfl (Or.inl rfl)) (da_cons (de_var 2 rfl (Or.inl rfl)) da_nil)))⟩)))))⟩
theorem sc_all_spans : FnScope N_all_spans ["periods"] (defScope s_all_spans) := ⟨rfl, rfl, rfl, by decide +kernel, rfl, by decide +kernel, by decide +kernel⟩
theorem dv_all_spans {P : Program} {w : World} {K : PySem.W.Frag} {mg : Str → Option Value} {base : Heap} (B : Mg mg) (ER : Er P K mg) (c_check_number : Fn P w K mg base false "check_number" 2 ["value", "least", "most"] [] S_check_number) (c_spans_of : Fn P w K mg base false "spans_of" 1 ["periods"] [] S_spans_of) {f : Addr} (cdv : Value) (A : Around) (outer : List Env) (s : Shared) (H : Hp) (E : XK) (m : Option (Addr × Obj)) (b : BodyOk (cxU P w K mg base N_all_spans "all_spans" (defScope s_all_spans) f cdv A outer s H E m) (WD E) 2 false) :
    ∃ ts, DSs (cxU P w K mg base N_all_spans "all_spans" (defScope s_all_spans) f cdv A outer s H E m) (WD E) (defBody s_all_spans) ts ds_all_spans := by
  obtain ⟨hr, mo, tk, pso⟩ := b
  have hc := mo.c
  exact ⟨_, (dss_cons (ds_expr (de_call c_check_number hr (.calm hc) (CallOk.of tk) (da_cons (de_var 0 rfl (Or.inl rfl)) (da_cons de_int (da_cons (de_gint rfl B.c_MOST_PERIODS) da_nil)))))
  (dss_one (ds_ret (de_tyc call_tuple_of sim_tuple B.b_tuple bt_tuple (da_cons (de_call c_spans_of hr (.calm hc) (CallOk.of tk) (da_cons (de_var 0 rfl (Or.inl rfl)) da_nil)) da_nil)))))⟩
theorem sc__law_refused : FnScope N__law_refused ["odd"] (defScope s__law_refused) := ⟨rfl, rfl, rfl, by decide +kernel, rfl, by decide +kernel, by decide +kernel⟩
theorem dv__law_refused {P : Program} {w : World} {K : PySem.W.Frag} {mg : Str → Option Value} {base : Heap} (B : Mg mg) (ER : Er P K mg) (c_all_spans : Fn P w K mg base false "all_spans" 3 ["periods"] [] S_all_spans) {f : Addr} (cdv : Value) (A : Around) (outer : List Env) (s : Shared) (H : Hp) (E : XK) (m : Option (Addr × Obj)) (b : BodyOk (cxU P w K mg base N__law_refused "_law_refused" (defScope s__law_refused) f cdv A outer s H E m) (WD E) 3 false) :
    ∃ ts, DSs (cxU P w K mg base N__law_refused "_law_refused" (defScope s__law_refused) f cdv A outer s H E m) (WD E) (defBody s__law_refused) ts ds__law_refused := by
  obtain ⟨hr, mo, tk, pso⟩ := b
  have hc := mo.c
  exact ⟨_, (dss_cons (ds_tryX rfl rfl sc__law_refused.nd (i := 1) rfl rfl ⟨rfl, rfl, .inl ER.g_InvalidNumber⟩ ER.x_InvalidNumber tk (fun _ _ _ tk pso => ⟨_, (dss_one (ds_expr (de_call c_all_spans hr (.calm hc) (CallOk.of tk) (da_cons (de_var 0 rfl (Or.inl rfl)) da_nil))))⟩)
  (fun a oe cls dx pn hd => have mo := hd.hot; have hr := hr.mark (some (.ref a)); ⟨_, (dss_cons (ds_if (DW.pt (dw_or (dt_not (dt_val (de_isE 1 ER.ask hd (c := .ref _) (fun _ h => h) (pe_glob rfl ER.g_SlotError rfl) ER.k_SlotError rfl B.b_isinstance))) (dw_or1 (dt_not (dt_val (de_isE 1 ER.ask hd (c := .ty "ValueError") (fun _ h => h) (pe_bltn rfl B.b_ValueError rfl rfl) ER.k_ValueError rfl B.b_isinstance))))))
  (dss_one (ds_ret de_bl))
  dss_nil)
  (dss_cons (ds_if (dt_val (de_blt call_isi sim_isi B.b_isinstance bt_isinstance (da_cons (de_var 0 rfl (Or.inl rfl)) (da_cons (de_ty rfl B.b_int bt_int) da_nil))))
  (dss_one (ds_ret (de_and (de_blt call_isi sim_isi B.b_isinstance bt_isinstance (da_cons (de_xf 1 ER.ask hd) (da_cons (de_ty rfl B.b_int bt_int) da_nil))) (de_and (de_not (de_blt call_isi sim_isi B.b_isinstance bt_isinstance (da_cons (de_xf 1 ER.ask hd) (da_cons (de_ty rfl B.b_bool bt_bool) da_nil)))) (de_one (de_eq hr (de_xf 1 ER.ask hd) (de_var 0 rfl (Or.inl rfl))))))))
  dss_nil)
  (dss_one (ds_ret (de_eq hr (de_blt (call_repr hr) sim_repr B.b_repr bt_repr (da_cons (de_xf 1 ER.ask hd) da_nil)) (de_blt (call_repr hr) sim_repr B.b_repr bt_repr (da_cons (de_var 0 rfl (Or.inl rfl)) da_nil)))))))⟩))
  (dss_one (ds_ret de_bl)))⟩
theorem sc__law_all : FnScope N__law_all ["periods"] (defScope s__law_all) := ⟨rfl, rfl, rfl, by decide +kernel, rfl, by decide +kernel, by decide +kernel⟩
theorem dv__law_all {P : Program} {w : World} {K : PySem.W.Frag} {mg : Str → Option Value} {base : Heap} (B : Mg mg) (ER : Er P K mg) (c_all_spans : Fn P w K mg base false "all_spans" 3 ["periods"] [] S_all_spans) (c__law_same : Fn P w K mg base false "_law_same" 1 ["actual", "due"] [] S__law_same) {f : Addr} (cdv : Value) (A : Around) (outer : List Env) (s : Shared) (H : Hp) (E : XK) (m : Option (Addr × Obj)) (b : BodyOk (cxU P w K mg base N__law_all "_law_all" (defScope s__law_all) f cdv A outer s H E m) (WD E) 3 false) :
    ∃ ts, DSs (cxU P w K mg base N__law_all "_law_all" (defScope s__law_all) f cdv A outer s H E m) (WD E) (defBody s__law_all) ts ds__law_all := by
  obtain ⟨hr, mo, tk, pso⟩ := b
  have hc := mo.c
  exact ⟨_, (dss_cons (ds_set 1 sc__law_all.nd (de_call c_all_spans hr (.calm hc) (CallOk.of tk) (da_cons (de_var 0 rfl (Or.inl rfl)) da_nil)) rfl (Or.inl rfl))
  (dss_cons (ds_if (DW.pt (dw_or (dt_not (dt_val (de_blt call_isi sim_isi B.b_isinstance bt_isinstance (da_cons (de_var 1 rfl (Or.inl rfl)) (da_cons (de_ty rfl B.b_tuple bt_tuple) da_nil))))) (dw_or1 (dt_ne hr (de_blt call_len sim_len B.b_len bt_len (da_cons (de_var 1 rfl (Or.inl rfl)) da_nil)) (de_fdiv (de_mul (de_var 0 rfl (Or.inl rfl)) (de_add (de_var 0 rfl (Or.inl rfl)) de_int)) de_int)))))
  (dss_one (ds_ret de_bl))
  dss_nil)
  (dss_cons (ds_set 2 sc__law_all.nd de_int rfl (Or.inl rfl))
  (dss_cons (ds_for pso hc (di_range1 B.b_range (da_cons (de_var 0 rfl (Or.inl rfl)) da_nil)) (dg_name 3 sc__law_all.nd rfl (Or.inl rfl))
  (dss_one (ds_for pso hc (di_range2 B.b_range (da_cons (de_var 3 rfl (Or.inl rfl)) (da_cons (de_var 0 rfl (Or.inl rfl)) da_nil))) (dg_name 4 sc__law_all.nd rfl (Or.inl rfl))
  (dss_cons (ds_if (dt_not (dt_val (de_call c__law_same hr (.calm hc) (CallOk.of tk) (da_cons (de_ix (de_var 1 rfl (Or.inl rfl)) (de_var 2 rfl (Or.inl rfl))) (da_cons (de_tup (da_cons (de_var 3 rfl (Or.inl rfl)) (da_cons (de_var 4 rfl (Or.inl rfl)) da_nil))) da_nil)))))
  (dss_one (ds_ret de_bl))
  dss_nil)
  (dss_one (ds_set 2 sc__law_all.nd (de_add (de_var 2 rfl (Or.inl rfl)) de_int) rfl (Or.inl rfl)))))))
  (dss_one (ds_ret de_bl))))))⟩
theorem sc__law_periods : FnScope N__law_periods ["pair"] (defScope s__law_periods) := ⟨rfl, rfl, rfl, by decide +kernel, rfl, by decide +kernel, by decide +kernel⟩
theorem dv__law_periods {P : Program} {w : World} {K : PySem.W.Frag} {mg : Str → Option Value} {base : Heap} (B : Mg mg) (ER : Er P K mg)  {f : Addr} (cdv : Value) (A : Around) (outer : List Env) (s : Shared) (H : Hp) (E : XK) (m : Option (Addr × Obj)) (b : BodyOk (cxU P w K mg base N__law_periods "_law_periods" (defScope s__law_periods) f cdv A outer s H E m) (WD E) 0 false) :
    ∃ ts, DSs (cxU P w K mg base N__law_periods "_law_periods" (defScope s__law_periods) f cdv A outer s H E m) (WD E) (defBody s__law_periods) ts ds__law_periods := by
  obtain ⟨hr, mo, tk, pso⟩ := b
  have hc := mo.c
  exact ⟨_, (dss_one (ds_ret (DO.frz (do_lcX hc sc__law_periods.nd (di_range2 B.b_range (da_cons (de_ix (de_var 0 rfl (Or.inl rfl)) de_int) (da_cons (de_add (de_ix (de_var 0 rfl (Or.inl rfl)) de_int) de_int) da_nil))) (blkOk_by (N := N__law_periods) (sc := defScope s__law_periods) (own := [("period", 1)]) (by decide +kernel)) (fun _ _ _ _ _ => ⟨_, (dg_name 1 sc__law_periods.nd rfl (Or.inl rfl) (by exact .inr rfl))⟩) (fun _ _ _ _ _ => ⟨_, dts_nil⟩) (fun _ _ _ _ _ => ⟨_, (de_var 1 rfl (Or.inl rfl))⟩)))))⟩
theorem sc__law_two : FnScope N__law_two ["one", "other", "way"] (defScope s__law_two) := ⟨rfl, rfl, rfl, by decide +kernel, rfl, by decide +kernel, by decide +kernel⟩
theorem dv__law_two {P : Program} {w : World} {K : PySem.W.Frag} {mg : Str → Option Value} {base : Heap} (B : Mg mg) (ER : Er P K mg) (c__law_periods : Fn P w K mg base false "_law_periods" 1 ["pair"] [] S__law_periods) (c_lies_in : Fn P w K mg base false "lies_in" 2 ["one", "other"] [] S_lies_in) (c_meets : Fn P w K mg base false "meets" 1 ["one", "other"] [] S_meets) (c__law_same : Fn P w K mg base false "_law_same" 1 ["actual", "due"] [] S__law_same) (c_common_part : Fn P w K mg base false "common_part" 2 ["one", "other"] [] S_common_part) {f : Addr} (cdv : Value) (A : Around) (outer : List Env) (s : Shared) (H : Hp) (E : XK) (m : Option (Addr × Obj)) (b : BodyOk (cxU P w K mg base N__law_two "_law_two" (defScope s__law_two) f cdv A outer s H E m) (WD E) 2 false) :
    ∃ ts, DSs (cxU P w K mg base N__law_two "_law_two" (defScope s__law_two) f cdv A outer s H E m) (WD E) (defBody s__law_two) ts ds__law_two := by
  obtain ⟨hr, mo, tk, pso⟩ := b
  have hc := mo.c
  exact ⟨_, (dss_cons (ds_set 3 sc__law_two.nd (de_call c__law_periods hr (.calm hc) (CallOk.of tk) (da_cons (de_var 0 rfl (Or.inl rfl)) da_nil)) rfl (Or.inl rfl))
  (dss_cons (ds_set 4 sc__law_two.nd (de_call c__law_periods hr (.calm hc) (CallOk.of tk) (da_cons (de_var 1 rfl (Or.inl rfl)) da_nil)) rfl (Or.inr rfl))
  (dss_cons (ds_lcX 5 hc sc__law_two.nd (di_seq (de_var 3 rfl (Or.inl rfl))) (blkOk_by (N := N__law_two) (sc := defScope s__law_two) (own := [("period", 12)]) (by decide +kernel)) (fun _ _ _ _ _ => ⟨_, (dg_name 12 sc__law_two.nd rfl (Or.inl rfl) (by exact .inr rfl))⟩) (fun _ _ _ _ _ => ⟨_, (dts_one (dt_in hr (de_var 12 rfl (Or.inl rfl)) (de_var 4 rfl (by first | exact Or.inr (Or.inl rfl) | exact Or.inr (Or.inr rfl)))))⟩) (fun _ _ _ _ _ => ⟨_, (de_var 12 rfl (Or.inl rfl))⟩) (sw_true rfl rfl rfl rfl))
  (dss_cons (ds_set 6 sc__law_two.nd (de_eq hr (de_blt call_len sim_len B.b_len bt_len (da_cons (de_var 5 rfl (Or.inl rfl)) da_nil)) (de_blt call_len sim_len B.b_len bt_len (da_cons (de_var 3 rfl (Or.inl rfl)) da_nil))) rfl (Or.inl rfl))
  (dss_cons (ds_set 7 sc__law_two.nd de_non rfl (Or.inl rfl))
  (dss_cons (ds_if (dt_gt (de_blt call_len sim_len B.b_len bt_len (da_cons (de_var 5 rfl (Or.inl rfl)) da_nil)) de_int)
  (dss_one (ds_set 7 sc__law_two.nd (de_tup (da_cons (de_ix (de_var 5 rfl (Or.inl rfl)) de_int) (da_cons (de_ix (de_var 5 rfl (Or.inl rfl)) (de_neg de_int)) da_nil))) rfl (Or.inl rfl)))
  dss_nil)
  (dss_cons (ds_set 8 sc__law_two.nd (de_ix (DO.frz (do_lst (da_cons (DO.frz (do_tyc call_list_of sim_list B.b_list bt_list (da_cons (de_var 0 rfl (Or.inl rfl)) da_nil))) (da_cons (de_tyc call_tuple_of sim_tuple B.b_tuple bt_tuple (da_cons (de_var 0 rfl (Or.inl rfl)) da_nil)) da_nil)))) (de_mod (de_var 2 rfl (Or.inl rfl)) de_int)) rfl (Or.inl rfl))
  (dss_cons (ds_set 9 sc__law_two.nd (de_ix (DO.frz (do_lst (da_cons (DO.frz (do_tyc call_list_of sim_list B.b_list bt_list (da_cons (de_var 1 rfl (Or.inl rfl)) da_nil))) (da_cons (de_tyc call_tuple_of sim_tuple B.b_tuple bt_tuple (da_cons (de_var 1 rfl (Or.inl rfl)) da_nil)) da_nil)))) (de_fdiv (de_var 2 rfl (Or.inl rfl)) de_int)) rfl (Or.inl rfl))
  (dss_cons (ds_set 10 sc__law_two.nd (de_call c_lies_in hr (.calm hc) (CallOk.of tk) (da_cons (de_var 8 rfl (Or.inl rfl)) (da_cons (de_var 9 rfl (Or.inl rfl)) da_nil))) rfl (Or.inl rfl))
  (dss_cons (ds_set 11 sc__law_two.nd (de_call c_meets hr (.calm hc) (CallOk.of tk) (da_cons (de_var 8 rfl (Or.inl rfl)) (da_cons (de_var 9 rfl (Or.inl rfl)) da_nil))) rfl (Or.inl rfl))
  (dss_cons (ds_if (DW.pt (dw_or (dt_not (dt_val (de_blt call_isi sim_isi B.b_isinstance bt_isinstance (da_cons (de_var 10 rfl (Or.inl rfl)) (da_cons (de_ty rfl B.b_bool bt_bool) da_nil))))) (dw_or (dt_ne hr (de_var 10 rfl (Or.inl rfl)) (de_var 6 rfl (Or.inl rfl))) (dw_or (dt_not (dt_val (de_blt call_isi sim_isi B.b_isinstance bt_isinstance (da_cons (de_var 11 rfl (Or.inl rfl)) (da_cons (de_ty rfl B.b_bool bt_bool) da_nil))))) (dw_or1 (dt_ne hr (de_var 11 rfl (Or.inl rfl)) (de_gt (de_blt call_len sim_len B.b_len bt_len (da_cons (de_var 5 rfl (Or.inl rfl)) da_nil)) de_int)))))))
  (dss_one (ds_ret de_bl))
  dss_nil)
  (dss_cons (ds_if (dt_not (dt_val (de_call c__law_same hr (.calm hc) (CallOk.of tk) (da_cons (de_call c_common_part hr (.calm hc) (CallOk.of tk) (da_cons (de_var 8 rfl (Or.inl rfl)) (da_cons (de_var 9 rfl (Or.inl rfl)) da_nil))) (da_cons (de_var 7 rfl (Or.inl rfl)) da_nil)))))
  (dss_one (ds_ret de_bl))
  dss_nil)
  (dss_one (ds_ret (de_and (de_eq hr (DO.frz (do_tyc call_list_of sim_list B.b_list bt_list (da_cons (de_var 8 rfl (Or.inl rfl)) da_nil))) (DO.frz (do_tyc call_list_of sim_list B.b_list bt_list (da_cons (de_var 0 rfl (Or.inl rfl)) da_nil)))) (de_one (de_eq hr (DO.frz (do_tyc call_list_of sim_list B.b_list bt_list (da_cons (de_var 9 rfl (Or.inl rfl)) da_nil))) (DO.frz (do_tyc call_list_of sim_list B.b_list bt_list (da_cons (de_var 1 rfl (Or.inl rfl)) da_nil))))))))))))))))))))⟩
theorem sc_law : FnScope N_law ["script"] (defScope s_law) := ⟨rfl, rfl, rfl, by decide +kernel, rfl, by decide +kernel, by decide +kernel⟩
theorem dv_law {P : Program} {w : World} {K : PySem.W.Frag} {mg : Str → Option Value} {base : Heap} (B : Mg mg) (ER : Er P K mg) (c__law_source : FnO P w K mg base false "_law_source" 1 ["script"] [] S__law_source) (c__law_draw : Fn P w K mg base false "_law_draw" 1 ["source", "many"] [] S__law_draw) (c__law_pair : Fn P w K mg base false "_law_pair" 2 ["source", "size"] [] S__law_pair) (c__law_beside : Fn P w K mg base false "_law_beside" 3 ["source", "size", "pair"] [] S__law_beside) (c__law_two : Fn P w K mg base false "_law_two" 3 ["one", "other", "way"] [] S__law_two) (c__law_refused : Fn P w K mg base false "_law_refused" 4 ["odd"] [] S__law_refused) (c__law_all : Fn P w K mg base false "_law_all" 4 ["periods"] [] S__law_all) (c__law_scene : Fn P w K mg base false "_law_scene" 3 [] [] S__law_scene) {f : Addr} (cdv : Value) (A : Around) (outer : List Env) (s : Shared) (H : Hp) (E : XK) (m : Option (Addr × Obj)) (b : BodyOk (cxU P w K mg base N_law "law" (defScope s_law) f cdv A outer s H E m) (WD E) 4 false) :
    ∃ ts, DSs (cxU P w K mg base N_law "law" (defScope s_law) f cdv A outer s H E m) (WD E) (defBody s_law) ts ds_law := by
  obtain ⟨hr, mo, tk, pso⟩ := b
  have hc := mo.c
  exact ⟨_, (dss_cons (ds_setO 1 sc_law.nd (do_call c__law_source hr (.calm hc) (CallOk.of tk) (da_cons (de_var 0 rfl (Or.inl rfl)) da_nil)) rfl (Or.inl rfl))
  (DSs.hide 1 SrcP (dss_cons (ds_set 2 sc_law.nd (de_add de_int (de_call c__law_draw hr (.calm hc) (CallOk.of tk) (da_consS 1 (pe_var (i := 1) rfl (Or.inl rfl)) (da_cons de_int da_nil)))) rfl (Or.inl rfl))
  (dss_cons (ds_for pso hc (di_range1 B.b_range (da_cons de_int da_nil)) (dg_name 3 sc_law.nd rfl (Or.inl rfl))
  (dss_cons (ds_set 4 sc_law.nd (de_call c__law_pair hr (.calm hc) (CallOk.of tk) (da_consS 1 (pe_var (i := 1) rfl (Or.inl rfl)) (da_cons (de_var 2 rfl (Or.inl rfl)) da_nil))) rfl (Or.inl rfl))
  (dss_cons (ds_set 5 sc_law.nd (de_call c__law_beside hr (.calm hc) (CallOk.of tk) (da_consS 1 (pe_var (i := 1) rfl (Or.inl rfl)) (da_cons (de_var 2 rfl (Or.inl rfl)) (da_cons (de_var 4 rfl (Or.inl rfl)) da_nil)))) rfl (Or.inl rfl))
  (dss_cons (ds_set 6 sc_law.nd (de_call c__law_draw hr (.calm hc) (CallOk.of tk) (da_consS 1 (pe_var (i := 1) rfl (Or.inl rfl)) (da_cons de_int da_nil))) rfl (Or.inl rfl))
  (dss_one (ds_if (DW.pt (dw_or (dt_not (dt_val (de_call c__law_two hr (.calm hc) (CallOk.of tk) (da_cons (de_var 4 rfl (Or.inl rfl)) (da_cons (de_var 5 rfl (Or.inl rfl)) (da_cons (de_var 6 rfl (Or.inl rfl)) da_nil)))))) (dw_or (dt_not (dt_val (de_call c__law_two hr (.calm hc) (CallOk.of tk) (da_cons (de_var 5 rfl (Or.inl rfl)) (da_cons (de_var 4 rfl (Or.inl rfl)) (da_cons (de_var 6 rfl (Or.inl rfl)) da_nil)))))) (dw_or1 (dt_not (dt_val (de_call c__law_two hr (.calm hc) (CallOk.of tk) (da_cons (de_var 4 rfl (Or.inl rfl)) (da_cons (de_var 4 rfl (Or.inl rfl)) (da_cons (de_sub de_int (de_var 6 rfl (Or.inl rfl))) da_nil))))))))))
  (dss_one (ds_ret de_bl))
  dss_nil))))))
  (dss_cons (ds_set 7 sc_law.nd (DO.frz (do_lst (da_cons de_int (da_cons de_int (da_cons (de_neg de_int) (da_cons de_non (da_cons de_str (da_cons (de_tup (da_cons de_int da_nil)) (da_cons (DO.frz (do_lst (da_cons de_int da_nil))) (da_cons (de_add de_int (de_call c__law_draw hr (.calm hc) (CallOk.of tk) (da_consS 1 (pe_var (i := 1) rfl (Or.inl rfl)) (da_cons de_int da_nil)))) (da_cons (de_sub de_int (de_call c__law_draw hr (.calm hc) (CallOk.of tk) (da_consS 1 (pe_var (i := 1) rfl (Or.inl rfl)) (da_cons de_int da_nil)))) (da_cons (de_pow de_int de_int) da_nil)))))))))))) rfl (Or.inl rfl))
  (dss_cons (ds_for pso hc (di_range1 B.b_range (da_cons de_int da_nil)) (dg_name 3 sc_law.nd rfl (Or.inl rfl))
  (dss_one (ds_if (dt_not (dt_val (de_call c__law_refused hr (.calm hc) (CallOk.of tk) (da_cons (de_ix (de_var 7 rfl (Or.inl rfl)) (de_call c__law_draw hr (.calm hc) (CallOk.of tk) (da_consS 1 (pe_var (i := 1) rfl (Or.inl rfl)) (da_cons (de_blt call_len sim_len B.b_len bt_len (da_cons (de_var 7 rfl (Or.inl rfl)) da_nil)) da_nil)))) da_nil))))
  (dss_one (ds_ret de_bl))
  dss_nil)))
  (dss_cons (ds_if (DW.pt (dw_or (dt_not (dt_val (de_call c__law_all hr (.calm hc) (CallOk.of tk) (da_cons (de_var 2 rfl (Or.inl rfl)) da_nil)))) (dw_or1 (dt_not (dt_val (de_call c__law_all hr (.calm hc) (CallOk.of tk) (da_cons (de_ix (DO.frz (do_lst (da_cons de_int (da_cons de_int (da_cons de_int (da_cons de_int da_nil)))))) (de_call c__law_draw hr (.calm hc) (CallOk.of tk) (da_consS 1 (pe_var (i := 1) rfl (Or.inl rfl)) (da_cons de_int da_nil)))) da_nil)))))))
  (dss_one (ds_ret de_bl))
  dss_nil)
  (dss_one (ds_ret (de_call0 c__law_scene hr (.calm hc) (CallOk.of tk)))))))))))⟩
end LW
namespace LW
open PySem PySem.Spec PyProof.Rows L2 DLU DLR DL HD

local macro_rules | `(tactic| walk_at "dl") => `(tactic| simp only [dSeq, dNext, dAsg, dgName, dStore, dIfS, dTest_eq, tsD_bl, dOp, dVar, dC, dRet, dRetN, dNever, dBrk, dCnt, dAnd, dOr, dNot, dAndV_eq, dOrV_eq, dNotV_eq, dIf, dNil, dCons, dConsS, dArgs, avD, dCB, dCBO, dInt1_int, dInt2_int, dIntOf_int, dIntOf_bl, dTup, dLst, dFrz, dDrop, dEq_int, dNe_int, dI0_int, dI2_int, dLt_int, dLe_int, dGt_int, dGe_int, dIsN_non, dNotN_non, dIsB_bl, dNotB_bl, isNon_sq, isNon_non, isNon_int, isNon_bl, isNon_str, isNon_tup, isNon_lst, dIx_sq, dIx_tup, dIx_lst, dIx_fl, dIxO, ixO_m, dSetI, dMet, mApp, mPop, mPopAt, mIns, mClear, dPart, dNoPart, dSl_eq, slD_sq, slD_tup, slD_lst, slD_fl, dSlL, dListOf_sq, dListOf_tup, dListOf_lst, dTupOf_sq, dTupOf_tup, dTupOf_lst, dLen_sq, dLen_tup, dLen_lst, dLen_fl, dAdd_int, dAdd_tup, dAdd_lst, dAdd_str, dAddO, dAsgO, dStill, dOpen, dHide, dIsi_ii, dIsi_ib, dIsi_tt, dIsi_ll, dIsi_sq, dIsiT_row, dIsi_bb, dIsi_bi, dIsi_bt, dIsi_it, dIsi_il, dIsi_is, dIsi_nb, dIsi_ni, dIsi_nt, dIsi_nl, dIsi_ti, dIsi_tb, dIsi_tl, dIsi_ts, dIsi_li, dIsi_lb, dIsi_lt, dIsi_ls, dIsi_si, dIsi_sb, dIsi_st, dIsi_ss, dEq_bl, dNe_bl, dInRange, dRgB, dCall_of, dCallO_of, AV.ok, AV.sv, slotsOf, setIo_un, setIo_d, setIo_ol, setIo_op, setIo_ok, setIo_ot, own_un, own_d, own_ol, own_op, own_ok, own_ot, io_un, io_d, io_ol, io_op, io_ok, io_ot, putBack, AV.isSl, dgSeq, dgCons, dgNil, seqOf_sq, seqOf_tup', seqOf_lst, seqOf_fl, dLook, dLookT, lookAll, SV.look, dAugI, dAugL, dRetO, dRetV, dChain_eq, dNeg, dIter_eq, itD_sq, itD_tup, itD_lst, itD_fl, dRng1, dRng2, dRng3, dEnum_eq, enD_one, dZip, start0, dYes, ioAll, wipeS, List.mem_cons, List.not_mem_nil,  dSumA, dMaxA, dMinA, dAllA, dAnyA, dOnA, intsL_ints, blsL_bls, atI_0, atI_1, atI_2, atI_3, ixN_lit0, ixN_lit1, ixN_lit2, ixN_lit3,
  List.getElem?_cons_zero, List.getElem?_cons_succ, List.set_cons_zero, List.set_cons_succ, List.map_cons, List.map_nil, List.length_cons, List.length_nil, List.getD_cons_zero, List.getD_cons_succ, List.mapIdx_cons, List.mapIdx_nil, List.findIdx?_cons, List.findIdx?_nil, List.all_cons, List.all_nil, List.append_nil, List.cons_append, List.nil_append, List.replicate_succ, List.replicate_zero, Option.map_some, Option.map_none, List.nodup_cons, List.nodup_nil, List.not_mem_nil, Bool.and_true, Bool.true_and, Bool.and_self, Bool.not_true, Bool.not_false, if_true, if_false, reduceIte, reduceCtorEq, Nat.reduceAdd, Nat.reduceSub, Nat.reduceBEq, Nat.reduceEqDiff, decide_true, decide_false, and_true, true_and, or_false, false_or, not_false_eq_true, beq_self_eq_true, Bool.false_eq_true, Option.getD_some, Option.getD_none, Option.some.injEq, exists_eq_left', ne_self_iff_false, Nat.zero_add, Nat.reduceLeDiff, Int.reduceNeg, and_self])

theorem max_if (a b : Int) : (if b > a then b else a) = max a b := by split <;> omega
theorem min_if (a b : Int) : (if b < a then b else a) = min a b := by split <;> omega
theorem numbered_map {α : Type} {f : α → D} {ns : List α} {k : Nat} {x : D} (h : (DL.numbered (ns.map f))[k]? = some x) : ∃ n, ns[k]? = some n ∧ x = .tup [.int (k : Nat), f n] := by
  unfold DL.numbered at h
  rw [List.getElem?_mapIdx, List.getElem?_map] at h
  cases e : ns[k]? with
  | none => rw [e] at h; cases h
  | some n => rw [e] at h; cases h; exact ⟨n, rfl, rfl⟩
theorem map_at {α : Type} {f : α → D} {ns : List α} {k : Nat} {x : D} (h : (ns.map f)[k]? = some x) : ∃ n, ns[k]? = some n ∧ x = f n := by
  rw [List.getElem?_map] at h
  cases e : ns[k]? with
  | none => rw [e] at h; cases h
  | some n => rw [e] at h; cases h; exact ⟨n, rfl, rfl⟩
theorem ints_at {lo : Int} {n k : Nat} {x : D} (h : (DL.intsFrom lo n)[k]? = some x) : k < n ∧ x = .int (lo + k) := by
  unfold DL.intsFrom at h
  rw [List.getElem?_map] at h
  cases e : (List.range n)[k]? with
  | none => rw [e] at h; cases h
  | some j =>
    rw [e] at h; cases h
    have hk := (List.getElem?_eq_some_iff.mp e).1
    rw [List.length_range] at hk
    rw [List.getElem?_range hk] at e
    cases e
    exact ⟨hk, rfl⟩
theorem ints_len (lo : Int) (n : Nat) : (DL.intsFrom lo n).length = n := by unfold DL.intsFrom; rw [List.length_map, List.length_range]
theorem same_of {ρ R : List SV} {vs : List Nat} (h : noOwn ρ vs = true) (e : wipeS ρ vs = R) : Same ρ R vs := ⟨h, e ▸ Weaks.refl _⟩
theorem sum_slice (ns : List Int) (q : Int × Int) (h0 : 0 ≤ q.1) (h1 : q.1 ≤ q.2) : ((ns.drop q.1.toNat).take ((q.2 + 1).toNat - q.1.toNat)).sum = sm ns q := by
  have e : q.2.toNat + 1 = q.1.toNat + ((q.2 + 1).toNat - q.1.toNat) := by omega
  unfold sm pf
  rw [e, List.take_add, List.sum_append]
  omega
theorem pf_succ (ns : List Int) (k : Nat) (n : Int) (h : ns[k]? = some n) : pf ns (k + 1) = pf ns k + n := by
  unfold pf
  rw [List.take_succ, h]; simp [List.sum_append]
theorem tag_map (ps : List (Int × Int)) (j : Bool) : ps.map (pr j) = (ps.map fun p => (j, p)).map fun o => pr o.1 o.2 := by rw [List.map_map]; rfl
theorem tag_snd (ps : List (Int × Int)) (j : Bool) : (ps.map fun p => (j, p)).map (·.2) = ps := by rw [List.map_map]; exact List.map_id ps
theorem tag_ok {n : Nat} {ps : List (Int × Int)} (h : ∀ p ∈ ps, PairOk n p) (j : Bool) : ∀ o ∈ (ps.map fun p => (j, p)), 0 ≤ o.2.1 ∧ o.2.1 ≤ o.2.2 ∧ o.2.2 < n := fun o ho => by
  obtain ⟨p, hp, rfl⟩ := List.mem_map.mp ho
  exact h p hp
theorem cnt_cons (x : Int × Int) (ps : List (Int × Int)) (q : Int × Int) : (cnt (x :: ps) q : Int) = cnt ps q + if q.1 ≤ x.1 ∧ x.2 ≤ q.2 then 1 else 0 := by
  unfold cnt
  rw [List.filter_cons]
  by_cases h : q.1 ≤ x.1 ∧ x.2 ≤ q.2
  · rw [if_pos (by simp [h.1, h.2]), if_pos h]; simp
  · rw [if_neg (by simp; omega), if_neg h]; simp
theorem cnt_both (p q : Int × Int) : ∀ ps : List (Int × Int), (cnt ps p : Int) + cnt ps q ≤ cnt ps (max p.1 q.1, min p.2 q.2) + cnt ps (min p.1 q.1, max p.2 q.2)
  | [] => by simp [cnt]
  | x :: ps => by
    have := cnt_both p q ps
    rw [cnt_cons, cnt_cons, cnt_cons, cnt_cons]
    dsimp only
    split <;> split <;> split <;> split <;> omega
theorem sm_both (ns : List Int) (p q : Int × Int) : sm ns p + sm ns q = sm ns (max p.1 q.1, min p.2 q.2) + sm ns (min p.1 q.1, max p.2 q.2) := by
  unfold sm
  dsimp only
  rcases Int.le_total p.1 q.1 with h | h <;> rcases Int.le_total p.2 q.2 with h' | h'
  · rw [Int.max_eq_right h, Int.min_eq_left h', Int.min_eq_left h, Int.max_eq_right h'] <;> omega
  · rw [Int.max_eq_right h, Int.min_eq_right h', Int.min_eq_left h, Int.max_eq_left h'] <;> omega
  · rw [Int.max_eq_left h, Int.min_eq_left h', Int.min_eq_right h, Int.max_eq_right h'] <;> omega
  · rw [Int.max_eq_left h, Int.min_eq_right h', Int.min_eq_right h, Int.max_eq_left h'] <;> omega
theorem set_cut (ns : List Int) (k : Nat) (x : Int) (h : k < ns.length) : ns.set k x = ns.take k ++ x :: ns.drop (k + 1) := List.set_eq_take_append_cons_drop.trans (if_pos h)
theorem room_set {ns : List Int} {x : Int} (h : RoomOk ns) (h0 : 0 ≤ x) (h1 : x ≤ 100) (k : Nat) : RoomOk (ns.set k x) := ⟨by rw [List.length_set]; exact h.1, by rw [List.length_set]; exact h.2.1, fun y hy => by
  rcases List.mem_or_eq_of_mem_set hy with z | z
  · exact h.2.2 y z
  · subst z; exact ⟨h0, h1⟩⟩
theorem inFT_int {x : D} {l m : Int} (h : inFT x l m = true) : ∃ v : Int, x = .int v ∧ l ≤ v ∧ v ≤ m := by
  unfold inFT at h
  split at h
  · rename_i v
    simp only [Bool.and_eq_true, decide_eq_true_eq] at h
    exact ⟨v, rfl, h.1, h.2⟩
  · cases h
theorem lc2_of {di di1 : DIv} {dg dg1 : DGv} {dt dt1 : DTv} {de : DEv} {vs vs1 : List Nat} {ρ : List SV} {Φ : List D → List SV → Prop} {Ξ : XQ} (items : List D) (ρ1 : List SV) (hdi : ∀ (Φ : List D → List SV → Prop) (Ξ : XQ), Φ items ρ1 → di ρ Φ Ξ) (hno : noOwn ρ1 vs = true) (hlen : items.length ≤ 1000) (St : Nat → List D → Prop) (h0 : St 0 [])
    (hs : ∀ (i : Nat) (x : D) (acc : List D), items[i]? = some x → St i acc → dg x (ioAll (wipeS ρ1 vs)) fun ρ2 => dt ρ2 (fun b ρ3 =>
      if b = true then di1 ρ3 (fun items1 ρ4 => noOwn ρ4 vs1 = true ∧ Same ρ4 (ioAll (wipeS ρ1 vs)) vs ∧ items1.length ≤ 1000 ∧ ∃ Inv1 : Nat → List D → Prop, Inv1 0 acc ∧
        (∀ (j : Nat) (z : D) (acc1 : List D), items1[j]? = some z → Inv1 j acc1 → dg1 z (ioAll (wipeS ρ4 vs1)) fun ρ5 => dt1 ρ5 (fun c ρ6 =>
          if c = true then de ρ6 (fun y ρ7 => Same ρ7 (ioAll (wipeS ρ4 vs1)) vs1 ∧ Inv1 (j + 1) (acc1 ++ [y])) X0 else Same ρ6 (ioAll (wipeS ρ4 vs1)) vs1 ∧ Inv1 (j + 1) acc1) X0) ∧
        (∀ acc1, Inv1 items1.length acc1 → St (i + 1) acc1)) X0
      else Same ρ3 (ioAll (wipeS ρ1 vs)) vs ∧ St (i + 1) acc) X0)
    (hd : ∀ acc, St items.length acc → Φ acc ρ1) : dLc2 di dg dt di1 dg1 dt1 de vs vs1 ρ Φ Ξ := hdi _ _ ⟨hno, hlen, St, h0, hs, hd⟩
theorem dEq_str {Φ : D → Prop} (a b : PySem.Str) (ha : (D.str a).lay = true) (hb : (D.str b).lay = true) (h : Φ (.bl (decide (a = b)))) : dEq (.str a) (.str b) Φ := by
  refine ⟨ha, hb, ?_⟩
  have : PyData.eqv (D.str a).py (D.str b).py = decide (a = b) := by
    show PyData.eqv (.str a) (.str b) = _
    unfold PyData.eqv
    by_cases h : a = b <;> simp [h]
  rw [this]; exact h
theorem ints0_at {n k : Nat} {x : D} (h : (DL.intsFrom 0 n)[k]? = some x) : k < n ∧ x = .int (k : Int) := by
  obtain ⟨h1, h2⟩ := ints_at h
  rw [Int.zero_add] at h2
  exact ⟨h1, h2⟩

theorem rd__law_source : ReadsO 1 N__law_source S__law_source ds__law_source := by
  intro svs ret exc h
  obtain ⟨ns, rfl, h1, h⟩ := h
  refine ⟨rfl, ?_⟩
  simp only [ds__law_source, ds__law_source_b1, ds__law_source_s3, ds__law_source_s2, ds__law_source_s1, dSeq, dNext, dAsg, dgName, dStore, dIfS, dTest_eq, tsD_bl, dOp, dVar, dC, dRet, dRetN, dNever, dBrk, dCnt, dAnd, dOr, dNot, dAndV_eq, dOrV_eq, dNotV_eq, dIf, dNil, dCons, dConsS, dArgs, avD, dCB, dCBO, dInt1_int, dInt2_int, dIntOf_int, dIntOf_bl, dTup, dLst, dFrz, dDrop, dEq_int, dNe_int, dI0_int, dI2_int, dLt_int, dLe_int, dGt_int, dGe_int, dIsN_non, dNotN_non, dIsB_bl, dNotB_bl, isNon_sq, isNon_non, isNon_int, isNon_bl, isNon_str, isNon_tup, isNon_lst, dIx_sq, dIx_tup, dIx_lst, dIx_fl, dIxO, ixO_m, dSetI, dMet, mApp, mPop, mPopAt, mIns, mClear, dPart, dNoPart, dSl_eq, slD_sq, slD_tup, slD_lst, slD_fl, dSlL, dListOf_sq, dListOf_tup, dListOf_lst, dTupOf_sq, dTupOf_tup, dTupOf_lst, dLen_sq, dLen_tup, dLen_lst, dLen_fl, dAdd_int, dAdd_tup, dAdd_lst, dAdd_str, dAddO, dAsgO, dStill, dOpen, dHide, dIsi_ii, dIsi_ib, dIsi_tt, dIsi_ll, dIsi_sq, dIsiT_row, dIsi_bb, dIsi_bi, dIsi_bt, dIsi_it, dIsi_il, dIsi_is, dIsi_nb, dIsi_ni, dIsi_nt, dIsi_nl, dIsi_ti, dIsi_tb, dIsi_tl, dIsi_ts, dIsi_li, dIsi_lb, dIsi_lt, dIsi_ls, dIsi_si, dIsi_sb, dIsi_st, dIsi_ss, dEq_bl, dNe_bl, dInRange, dRgB, dCall_of, dCallO_of, AV.ok, AV.sv, slotsOf, setIo_un, setIo_d, setIo_ol, setIo_op, setIo_ok, setIo_ot, own_un, own_d, own_ol, own_op, own_ok, own_ot, io_un, io_d, io_ol, io_op, io_ok, io_ot, putBack, AV.isSl, dgSeq, dgCons, dgNil, seqOf_sq, seqOf_tup', seqOf_lst, seqOf_fl, dLook, dLookT, lookAll, SV.look, dAugI, dAugL, dRetO, dRetV, dChain_eq, dNeg, dIter_eq, itD_sq, itD_tup, itD_lst, itD_fl, dRng1, dRng2, dRng3, dEnum_eq, enD_one, dZip, start0, dYes, ioAll, wipeS, List.mem_cons, List.not_mem_nil,  dSumA, dMaxA, dMinA, dAllA, dAnyA, dOnA, intsL_ints, blsL_bls, atI_0, atI_1, atI_2, atI_3, ixN_lit0, ixN_lit1, ixN_lit2, ixN_lit3,
  List.getElem?_cons_zero, List.getElem?_cons_succ, List.set_cons_zero, List.set_cons_succ, List.map_cons, List.map_nil, List.length_cons, List.length_nil, List.getD_cons_zero, List.getD_cons_succ, List.mapIdx_cons, List.mapIdx_nil, List.findIdx?_cons, List.findIdx?_nil, List.all_cons, List.all_nil, List.append_nil, List.cons_append, List.nil_append, List.replicate_succ, List.replicate_zero, Option.map_some, Option.map_none, List.nodup_cons, List.nodup_nil, List.not_mem_nil, Bool.and_true, Bool.true_and, Bool.and_self, Bool.not_true, Bool.not_false, if_true, if_false, reduceIte, reduceCtorEq, Nat.reduceAdd, Nat.reduceSub, Nat.reduceBEq, Nat.reduceEqDiff, decide_true, decide_false, and_true, true_and, or_false, false_or, not_false_eq_true, beq_self_eq_true, Bool.false_eq_true, Option.getD_some, Option.getD_none, Option.some.injEq, exists_eq_left', ne_self_iff_false, Nat.zero_add, Nat.reduceLeDiff, Int.reduceNeg, and_self]
  refine for_of (ns.map D.int) _ (fun Φ Ξ h => by
      walk_at "dl"
      rw [cutD_upto _ _ (by decide), List.take_of_length_le (by rw [List.length_map]; exact h1)]; exact h)
    (fun k ρ => ∃ (s : Int) (gs : List Int), 0 ≤ s ∧ s < 2305843009213693951 ∧ gs.length ≤ k ∧ ρ = [.d (.fl (ns.map D.int)), .d (.int s), .ol false (gs.map D.int), .un]) ⟨1234567890123456789, [], by decide, by decide, Nat.le_refl _, rfl⟩ (fun k x ρ2 hx e => ?_) (fun ρ2 e => ?_)
  · obtain ⟨s, gs, s1, s2, s3, rfl⟩ := e
    obtain ⟨n, hn, rfl⟩ := map_at hx
    have hk : k < 63 := by have := (List.getElem?_eq_some_iff.mp hn).1; omega
    walk_at "dl"
    have step : ∀ (gs' : List Int), gs'.length ≤ k + 1 → CMul s s ∧ (0 : Int) < 2305843009213693951 ∧ CMul ((s * s + n) % 2305843009213693951) ((s * s + n) % 2305843009213693951) ∧ (0 : Int) < 2305843009213693951 ∧ Nxt (fun k ρ => ∃ (s : Int) (gs : List Int), 0 ≤ s ∧ s < 2305843009213693951 ∧ gs.length ≤ k ∧ ρ = [.d (.fl (ns.map D.int)), .d (.int s), .ol false (gs.map D.int), .un]) (k + 1)
        [.d (.fl (ns.map D.int)), .d (.int (((s * s + n) % 2305843009213693951 * ((s * s + n) % 2305843009213693951) + 12289) % 2305843009213693951)), .ol false (gs'.map D.int), .d (.int n)] := fun gs' hg => by
      have m1 := Int.emod_nonneg (s * s + n) (b := 2305843009213693951) (by decide)
      have m2 := Int.emod_lt_of_pos (s * s + n) (b := 2305843009213693951) (by decide)
      refine ⟨.inl ⟨by omega, by omega⟩, by decide, .inl ⟨by omega, by omega⟩, by decide, ?_⟩
      exact ⟨_, (by repeat (first | exact Weaks.nil | refine Weaks.cons (by first | exact Weak.refl _ | exact Weak.un rfl | (refine Weak.op ?_; assumption)) ?_)), _, gs', Int.emod_nonneg _ (by decide), Int.emod_lt_of_pos _ (by decide), hg, rfl⟩
    refine ⟨⟨by decide, by decide, by decide⟩, ?_⟩
    by_cases hc : (10 : Int) ^ (18 : Int).toNat ≤ n
    · simp only [hc, dSeq, dNext, dAsg, dgName, dStore, dIfS, dTest_eq, tsD_bl, dOp, dVar, dC, dRet, dRetN, dNever, dBrk, dCnt, dAnd, dOr, dNot, dAndV_eq, dOrV_eq, dNotV_eq, dIf, dNil, dCons, dConsS, dArgs, avD, dCB, dCBO, dInt1_int, dInt2_int, dIntOf_int, dIntOf_bl, dTup, dLst, dFrz, dDrop, dEq_int, dNe_int, dI0_int, dI2_int, dLt_int, dLe_int, dGt_int, dGe_int, dIsN_non, dNotN_non, dIsB_bl, dNotB_bl, isNon_sq, isNon_non, isNon_int, isNon_bl, isNon_str, isNon_tup, isNon_lst, dIx_sq, dIx_tup, dIx_lst, dIx_fl, dIxO, ixO_m, dSetI, dMet, mApp, mPop, mPopAt, mIns, mClear, dPart, dNoPart, dSl_eq, slD_sq, slD_tup, slD_lst, slD_fl, dSlL, dListOf_sq, dListOf_tup, dListOf_lst, dTupOf_sq, dTupOf_tup, dTupOf_lst, dLen_sq, dLen_tup, dLen_lst, dLen_fl, dAdd_int, dAdd_tup, dAdd_lst, dAdd_str, dAddO, dAsgO, dStill, dOpen, dHide, dIsi_ii, dIsi_ib, dIsi_tt, dIsi_ll, dIsi_sq, dIsiT_row, dIsi_bb, dIsi_bi, dIsi_bt, dIsi_it, dIsi_il, dIsi_is, dIsi_nb, dIsi_ni, dIsi_nt, dIsi_nl, dIsi_ti, dIsi_tb, dIsi_tl, dIsi_ts, dIsi_li, dIsi_lb, dIsi_lt, dIsi_ls, dIsi_si, dIsi_sb, dIsi_st, dIsi_ss, dEq_bl, dNe_bl, dInRange, dRgB, dCall_of, dCallO_of, AV.ok, AV.sv, slotsOf, setIo_un, setIo_d, setIo_ol, setIo_op, setIo_ok, setIo_ot, own_un, own_d, own_ol, own_op, own_ok, own_ot, io_un, io_d, io_ol, io_op, io_ok, io_ot, putBack, AV.isSl, dgSeq, dgCons, dgNil, seqOf_sq, seqOf_tup', seqOf_lst, seqOf_fl, dLook, dLookT, lookAll, SV.look, dAugI, dAugL, dRetO, dRetV, dChain_eq, dNeg, dIter_eq, itD_sq, itD_tup, itD_lst, itD_fl, dRng1, dRng2, dRng3, dEnum_eq, enD_one, dZip, start0, dYes, ioAll, wipeS, List.mem_cons, List.not_mem_nil,  dSumA, dMaxA, dMinA, dAllA, dAnyA, dOnA, intsL_ints, blsL_bls, atI_0, atI_1, atI_2, atI_3, ixN_lit0, ixN_lit1, ixN_lit2, ixN_lit3,
  List.getElem?_cons_zero, List.getElem?_cons_succ, List.set_cons_zero, List.set_cons_succ, List.map_cons, List.map_nil, List.length_cons, List.length_nil, List.getD_cons_zero, List.getD_cons_succ, List.mapIdx_cons, List.mapIdx_nil, List.findIdx?_cons, List.findIdx?_nil, List.all_cons, List.all_nil, List.append_nil, List.cons_append, List.nil_append, List.replicate_succ, List.replicate_zero, Option.map_some, Option.map_none, List.nodup_cons, List.nodup_nil, List.not_mem_nil, Bool.and_true, Bool.true_and, Bool.and_self, Bool.not_true, Bool.not_false, if_true, if_false, reduceIte, reduceCtorEq, Nat.reduceAdd, Nat.reduceSub, Nat.reduceBEq, Nat.reduceEqDiff, decide_true, decide_false, and_true, true_and, or_false, false_or, not_false_eq_true, beq_self_eq_true, Bool.false_eq_true, Option.getD_some, Option.getD_none, Option.some.injEq, exists_eq_left', ne_self_iff_false, Nat.zero_add, Nat.reduceLeDiff, Int.reduceNeg, and_self]
      refine ⟨by rw [List.length_map]; omega, ?_⟩
      have := step (gs ++ [n]) (by rw [List.length_append]; simp; omega)
      rw [List.map_append] at this
      exact this
    · simp only [hc, dSeq, dNext, dAsg, dgName, dStore, dIfS, dTest_eq, tsD_bl, dOp, dVar, dC, dRet, dRetN, dNever, dBrk, dCnt, dAnd, dOr, dNot, dAndV_eq, dOrV_eq, dNotV_eq, dIf, dNil, dCons, dConsS, dArgs, avD, dCB, dCBO, dInt1_int, dInt2_int, dIntOf_int, dIntOf_bl, dTup, dLst, dFrz, dDrop, dEq_int, dNe_int, dI0_int, dI2_int, dLt_int, dLe_int, dGt_int, dGe_int, dIsN_non, dNotN_non, dIsB_bl, dNotB_bl, isNon_sq, isNon_non, isNon_int, isNon_bl, isNon_str, isNon_tup, isNon_lst, dIx_sq, dIx_tup, dIx_lst, dIx_fl, dIxO, ixO_m, dSetI, dMet, mApp, mPop, mPopAt, mIns, mClear, dPart, dNoPart, dSl_eq, slD_sq, slD_tup, slD_lst, slD_fl, dSlL, dListOf_sq, dListOf_tup, dListOf_lst, dTupOf_sq, dTupOf_tup, dTupOf_lst, dLen_sq, dLen_tup, dLen_lst, dLen_fl, dAdd_int, dAdd_tup, dAdd_lst, dAdd_str, dAddO, dAsgO, dStill, dOpen, dHide, dIsi_ii, dIsi_ib, dIsi_tt, dIsi_ll, dIsi_sq, dIsiT_row, dIsi_bb, dIsi_bi, dIsi_bt, dIsi_it, dIsi_il, dIsi_is, dIsi_nb, dIsi_ni, dIsi_nt, dIsi_nl, dIsi_ti, dIsi_tb, dIsi_tl, dIsi_ts, dIsi_li, dIsi_lb, dIsi_lt, dIsi_ls, dIsi_si, dIsi_sb, dIsi_st, dIsi_ss, dEq_bl, dNe_bl, dInRange, dRgB, dCall_of, dCallO_of, AV.ok, AV.sv, slotsOf, setIo_un, setIo_d, setIo_ol, setIo_op, setIo_ok, setIo_ot, own_un, own_d, own_ol, own_op, own_ok, own_ot, io_un, io_d, io_ol, io_op, io_ok, io_ot, putBack, AV.isSl, dgSeq, dgCons, dgNil, seqOf_sq, seqOf_tup', seqOf_lst, seqOf_fl, dLook, dLookT, lookAll, SV.look, dAugI, dAugL, dRetO, dRetV, dChain_eq, dNeg, dIter_eq, itD_sq, itD_tup, itD_lst, itD_fl, dRng1, dRng2, dRng3, dEnum_eq, enD_one, dZip, start0, dYes, ioAll, wipeS, List.mem_cons, List.not_mem_nil,  dSumA, dMaxA, dMinA, dAllA, dAnyA, dOnA, intsL_ints, blsL_bls, atI_0, atI_1, atI_2, atI_3, ixN_lit0, ixN_lit1, ixN_lit2, ixN_lit3,
  List.getElem?_cons_zero, List.getElem?_cons_succ, List.set_cons_zero, List.set_cons_succ, List.map_cons, List.map_nil, List.length_cons, List.length_nil, List.getD_cons_zero, List.getD_cons_succ, List.mapIdx_cons, List.mapIdx_nil, List.findIdx?_cons, List.findIdx?_nil, List.all_cons, List.all_nil, List.append_nil, List.cons_append, List.nil_append, List.replicate_succ, List.replicate_zero, Option.map_some, Option.map_none, List.nodup_cons, List.nodup_nil, List.not_mem_nil, Bool.and_true, Bool.true_and, Bool.and_self, Bool.not_true, Bool.not_false, if_true, if_false, reduceIte, reduceCtorEq, Nat.reduceAdd, Nat.reduceSub, Nat.reduceBEq, Nat.reduceEqDiff, decide_true, decide_false, and_true, true_and, or_false, false_or, not_false_eq_true, beq_self_eq_true, Bool.false_eq_true, Option.getD_some, Option.getD_none, Option.some.injEq, exists_eq_left', ne_self_iff_false, Nat.zero_add, Nat.reduceLeDiff, Int.reduceNeg, and_self]
      exact step gs (by omega)
  · obtain ⟨s, gs, s1, s2, s3, rfl⟩ := e
    walk_at "dl"
    exact ⟨[.un], rfl, .refl _, h _ ⟨s, 0, 0, gs, rfl, s1, s2, Int.le_refl _⟩⟩
theorem rd__law_same : Reads 2 N__law_same S__law_same ds__law_same := by
  intro svs ret exc h
  obtain ⟨x, rfl, hx, h⟩ := h
  refine ⟨rfl, ?_⟩
  obtain rfl | ⟨p, rfl⟩ := hx
  · simp only [ds__law_same, ds__law_same_b1, ds__law_same_s3, ds__law_same_s2, ds__law_same_s1, dSeq, dNext, dAsg, dgName, dStore, dIfS, dTest_eq, tsD_bl, dOp, dVar, dC, dRet, dRetN, dNever, dBrk, dCnt, dAnd, dOr, dNot, dAndV_eq, dOrV_eq, dNotV_eq, dIf, dNil, dCons, dConsS, dArgs, avD, dCB, dCBO, dInt1_int, dInt2_int, dIntOf_int, dIntOf_bl, dTup, dLst, dFrz, dDrop, dEq_int, dNe_int, dI0_int, dI2_int, dLt_int, dLe_int, dGt_int, dGe_int, dIsN_non, dNotN_non, dIsB_bl, dNotB_bl, isNon_sq, isNon_non, isNon_int, isNon_bl, isNon_str, isNon_tup, isNon_lst, dIx_sq, dIx_tup, dIx_lst, dIx_fl, dIxO, ixO_m, dSetI, dMet, mApp, mPop, mPopAt, mIns, mClear, dPart, dNoPart, dSl_eq, slD_sq, slD_tup, slD_lst, slD_fl, dSlL, dListOf_sq, dListOf_tup, dListOf_lst, dTupOf_sq, dTupOf_tup, dTupOf_lst, dLen_sq, dLen_tup, dLen_lst, dLen_fl, dAdd_int, dAdd_tup, dAdd_lst, dAdd_str, dAddO, dAsgO, dStill, dOpen, dHide, dIsi_ii, dIsi_ib, dIsi_tt, dIsi_ll, dIsi_sq, dIsiT_row, dIsi_bb, dIsi_bi, dIsi_bt, dIsi_it, dIsi_il, dIsi_is, dIsi_nb, dIsi_ni, dIsi_nt, dIsi_nl, dIsi_ti, dIsi_tb, dIsi_tl, dIsi_ts, dIsi_li, dIsi_lb, dIsi_lt, dIsi_ls, dIsi_si, dIsi_sb, dIsi_st, dIsi_ss, dEq_bl, dNe_bl, dInRange, dRgB, dCall_of, dCallO_of, AV.ok, AV.sv, slotsOf, setIo_un, setIo_d, setIo_ol, setIo_op, setIo_ok, setIo_ot, own_un, own_d, own_ol, own_op, own_ok, own_ot, io_un, io_d, io_ol, io_op, io_ok, io_ot, putBack, AV.isSl, dgSeq, dgCons, dgNil, seqOf_sq, seqOf_tup', seqOf_lst, seqOf_fl, dLook, dLookT, lookAll, SV.look, dAugI, dAugL, dRetO, dRetV, dChain_eq, dNeg, dIter_eq, itD_sq, itD_tup, itD_lst, itD_fl, dRng1, dRng2, dRng3, dEnum_eq, enD_one, dZip, start0, dYes, ioAll, wipeS, List.mem_cons, List.not_mem_nil,  dSumA, dMaxA, dMinA, dAllA, dAnyA, dOnA, intsL_ints, blsL_bls, atI_0, atI_1, atI_2, atI_3, ixN_lit0, ixN_lit1, ixN_lit2, ixN_lit3,
  List.getElem?_cons_zero, List.getElem?_cons_succ, List.set_cons_zero, List.set_cons_succ, List.map_cons, List.map_nil, List.length_cons, List.length_nil, List.getD_cons_zero, List.getD_cons_succ, List.mapIdx_cons, List.mapIdx_nil, List.findIdx?_cons, List.findIdx?_nil, List.all_cons, List.all_nil, List.append_nil, List.cons_append, List.nil_append, List.replicate_succ, List.replicate_zero, Option.map_some, Option.map_none, List.nodup_cons, List.nodup_nil, List.not_mem_nil, Bool.and_true, Bool.true_and, Bool.and_self, Bool.not_true, Bool.not_false, if_true, if_false, reduceIte, reduceCtorEq, Nat.reduceAdd, Nat.reduceSub, Nat.reduceBEq, Nat.reduceEqDiff, decide_true, decide_false, and_true, true_and, or_false, false_or, not_false_eq_true, beq_self_eq_true, Bool.false_eq_true, Option.getD_some, Option.getD_none, Option.some.injEq, exists_eq_left', ne_self_iff_false, Nat.zero_add, Nat.reduceLeDiff, Int.reduceNeg, and_self]
    exact Ret.same h rfl
  · simp only [ds__law_same, ds__law_same_b1, ds__law_same_s3, ds__law_same_s2, ds__law_same_s1, pr, sq_t, dSeq, dNext, dAsg, dgName, dStore, dIfS, dTest_eq, tsD_bl, dOp, dVar, dC, dRet, dRetN, dNever, dBrk, dCnt, dAnd, dOr, dNot, dAndV_eq, dOrV_eq, dNotV_eq, dIf, dNil, dCons, dConsS, dArgs, avD, dCB, dCBO, dInt1_int, dInt2_int, dIntOf_int, dIntOf_bl, dTup, dLst, dFrz, dDrop, dEq_int, dNe_int, dI0_int, dI2_int, dLt_int, dLe_int, dGt_int, dGe_int, dIsN_non, dNotN_non, dIsB_bl, dNotB_bl, isNon_sq, isNon_non, isNon_int, isNon_bl, isNon_str, isNon_tup, isNon_lst, dIx_sq, dIx_tup, dIx_lst, dIx_fl, dIxO, ixO_m, dSetI, dMet, mApp, mPop, mPopAt, mIns, mClear, dPart, dNoPart, dSl_eq, slD_sq, slD_tup, slD_lst, slD_fl, dSlL, dListOf_sq, dListOf_tup, dListOf_lst, dTupOf_sq, dTupOf_tup, dTupOf_lst, dLen_sq, dLen_tup, dLen_lst, dLen_fl, dAdd_int, dAdd_tup, dAdd_lst, dAdd_str, dAddO, dAsgO, dStill, dOpen, dHide, dIsi_ii, dIsi_ib, dIsi_tt, dIsi_ll, dIsi_sq, dIsiT_row, dIsi_bb, dIsi_bi, dIsi_bt, dIsi_it, dIsi_il, dIsi_is, dIsi_nb, dIsi_ni, dIsi_nt, dIsi_nl, dIsi_ti, dIsi_tb, dIsi_tl, dIsi_ts, dIsi_li, dIsi_lb, dIsi_lt, dIsi_ls, dIsi_si, dIsi_sb, dIsi_st, dIsi_ss, dEq_bl, dNe_bl, dInRange, dRgB, dCall_of, dCallO_of, AV.ok, AV.sv, slotsOf, setIo_un, setIo_d, setIo_ol, setIo_op, setIo_ok, setIo_ot, own_un, own_d, own_ol, own_op, own_ok, own_ot, io_un, io_d, io_ol, io_op, io_ok, io_ot, putBack, AV.isSl, dgSeq, dgCons, dgNil, seqOf_sq, seqOf_tup', seqOf_lst, seqOf_fl, dLook, dLookT, lookAll, SV.look, dAugI, dAugL, dRetO, dRetV, dChain_eq, dNeg, dIter_eq, itD_sq, itD_tup, itD_lst, itD_fl, dRng1, dRng2, dRng3, dEnum_eq, enD_one, dZip, start0, dYes, ioAll, wipeS, List.mem_cons, List.not_mem_nil,  dSumA, dMaxA, dMinA, dAllA, dAnyA, dOnA, intsL_ints, blsL_bls, atI_0, atI_1, atI_2, atI_3, ixN_lit0, ixN_lit1, ixN_lit2, ixN_lit3,
  List.getElem?_cons_zero, List.getElem?_cons_succ, List.set_cons_zero, List.set_cons_succ, List.map_cons, List.map_nil, List.length_cons, List.length_nil, List.getD_cons_zero, List.getD_cons_succ, List.mapIdx_cons, List.mapIdx_nil, List.findIdx?_cons, List.findIdx?_nil, List.all_cons, List.all_nil, List.append_nil, List.cons_append, List.nil_append, List.replicate_succ, List.replicate_zero, Option.map_some, Option.map_none, List.nodup_cons, List.nodup_nil, List.not_mem_nil, Bool.and_true, Bool.true_and, Bool.and_self, Bool.not_true, Bool.not_false, if_true, if_false, reduceIte, reduceCtorEq, Nat.reduceAdd, Nat.reduceSub, Nat.reduceBEq, Nat.reduceEqDiff, decide_true, decide_false, and_true, true_and, or_false, false_or, not_false_eq_true, beq_self_eq_true, Bool.false_eq_true, Option.getD_some, Option.getD_none, Option.some.injEq, exists_eq_left', ne_self_iff_false, Nat.zero_add, Nat.reduceLeDiff, Int.reduceNeg, and_self]
    rw [if_neg (by decide)]
    refine for_of (DL.intsFrom 0 2) _ (fun Φ Ξ h => by (try walk_at "dl"); exact ⟨by decide, h⟩) (fun k ρ => ρ = [SV.d (pr true p), SV.d (pr true p), .un]) rfl (fun k x ρ2 hx e => ?_) (fun ρ2 e => ?_)
    · subst e
      obtain ⟨hk, rfl⟩ := ints_at hx
      obtain rfl | rfl : k = 0 ∨ k = 1 := by omega
      · simp only [ds__law_same_b1, pr, sq_t, dSeq, dNext, dAsg, dgName, dStore, dIfS, dTest_eq, tsD_bl, dOp, dVar, dC, dRet, dRetN, dNever, dBrk, dCnt, dAnd, dOr, dNot, dAndV_eq, dOrV_eq, dNotV_eq, dIf, dNil, dCons, dConsS, dArgs, avD, dCB, dCBO, dInt1_int, dInt2_int, dIntOf_int, dIntOf_bl, dTup, dLst, dFrz, dDrop, dEq_int, dNe_int, dI0_int, dI2_int, dLt_int, dLe_int, dGt_int, dGe_int, dIsN_non, dNotN_non, dIsB_bl, dNotB_bl, isNon_sq, isNon_non, isNon_int, isNon_bl, isNon_str, isNon_tup, isNon_lst, dIx_sq, dIx_tup, dIx_lst, dIx_fl, dIxO, ixO_m, dSetI, dMet, mApp, mPop, mPopAt, mIns, mClear, dPart, dNoPart, dSl_eq, slD_sq, slD_tup, slD_lst, slD_fl, dSlL, dListOf_sq, dListOf_tup, dListOf_lst, dTupOf_sq, dTupOf_tup, dTupOf_lst, dLen_sq, dLen_tup, dLen_lst, dLen_fl, dAdd_int, dAdd_tup, dAdd_lst, dAdd_str, dAddO, dAsgO, dStill, dOpen, dHide, dIsi_ii, dIsi_ib, dIsi_tt, dIsi_ll, dIsi_sq, dIsiT_row, dIsi_bb, dIsi_bi, dIsi_bt, dIsi_it, dIsi_il, dIsi_is, dIsi_nb, dIsi_ni, dIsi_nt, dIsi_nl, dIsi_ti, dIsi_tb, dIsi_tl, dIsi_ts, dIsi_li, dIsi_lb, dIsi_lt, dIsi_ls, dIsi_si, dIsi_sb, dIsi_st, dIsi_ss, dEq_bl, dNe_bl, dInRange, dRgB, dCall_of, dCallO_of, AV.ok, AV.sv, slotsOf, setIo_un, setIo_d, setIo_ol, setIo_op, setIo_ok, setIo_ot, own_un, own_d, own_ol, own_op, own_ok, own_ot, io_un, io_d, io_ol, io_op, io_ok, io_ot, putBack, AV.isSl, dgSeq, dgCons, dgNil, seqOf_sq, seqOf_tup', seqOf_lst, seqOf_fl, dLook, dLookT, lookAll, SV.look, dAugI, dAugL, dRetO, dRetV, dChain_eq, dNeg, dIter_eq, itD_sq, itD_tup, itD_lst, itD_fl, dRng1, dRng2, dRng3, dEnum_eq, enD_one, dZip, start0, dYes, ioAll, wipeS, List.mem_cons, List.not_mem_nil,  dSumA, dMaxA, dMinA, dAllA, dAnyA, dOnA, intsL_ints, blsL_bls, atI_0, atI_1, atI_2, atI_3, ixN_lit0, ixN_lit1, ixN_lit2, ixN_lit3,
  List.getElem?_cons_zero, List.getElem?_cons_succ, List.set_cons_zero, List.set_cons_succ, List.map_cons, List.map_nil, List.length_cons, List.length_nil, List.getD_cons_zero, List.getD_cons_succ, List.mapIdx_cons, List.mapIdx_nil, List.findIdx?_cons, List.findIdx?_nil, List.all_cons, List.all_nil, List.append_nil, List.cons_append, List.nil_append, List.replicate_succ, List.replicate_zero, Option.map_some, Option.map_none, List.nodup_cons, List.nodup_nil, List.not_mem_nil, Bool.and_true, Bool.true_and, Bool.and_self, Bool.not_true, Bool.not_false, if_true, if_false, reduceIte, reduceCtorEq, Nat.reduceAdd, Nat.reduceSub, Nat.reduceBEq, Nat.reduceEqDiff, decide_true, decide_false, and_true, true_and, or_false, false_or, not_false_eq_true, beq_self_eq_true, Bool.false_eq_true, Option.getD_some, Option.getD_none, Option.some.injEq, exists_eq_left', ne_self_iff_false, Nat.zero_add, Nat.reduceLeDiff, Int.reduceNeg, and_self, show (0 : Int) + ((0 : Nat) : Int) = 0 by rfl]
        exact ⟨_, (by repeat (first | exact Weaks.nil | refine Weaks.cons (by first | exact Weak.refl _ | exact Weak.un rfl | (refine Weak.op ?_; assumption)) ?_)), rfl⟩
      · simp only [ds__law_same_b1, pr, sq_t, dSeq, dNext, dAsg, dgName, dStore, dIfS, dTest_eq, tsD_bl, dOp, dVar, dC, dRet, dRetN, dNever, dBrk, dCnt, dAnd, dOr, dNot, dAndV_eq, dOrV_eq, dNotV_eq, dIf, dNil, dCons, dConsS, dArgs, avD, dCB, dCBO, dInt1_int, dInt2_int, dIntOf_int, dIntOf_bl, dTup, dLst, dFrz, dDrop, dEq_int, dNe_int, dI0_int, dI2_int, dLt_int, dLe_int, dGt_int, dGe_int, dIsN_non, dNotN_non, dIsB_bl, dNotB_bl, isNon_sq, isNon_non, isNon_int, isNon_bl, isNon_str, isNon_tup, isNon_lst, dIx_sq, dIx_tup, dIx_lst, dIx_fl, dIxO, ixO_m, dSetI, dMet, mApp, mPop, mPopAt, mIns, mClear, dPart, dNoPart, dSl_eq, slD_sq, slD_tup, slD_lst, slD_fl, dSlL, dListOf_sq, dListOf_tup, dListOf_lst, dTupOf_sq, dTupOf_tup, dTupOf_lst, dLen_sq, dLen_tup, dLen_lst, dLen_fl, dAdd_int, dAdd_tup, dAdd_lst, dAdd_str, dAddO, dAsgO, dStill, dOpen, dHide, dIsi_ii, dIsi_ib, dIsi_tt, dIsi_ll, dIsi_sq, dIsiT_row, dIsi_bb, dIsi_bi, dIsi_bt, dIsi_it, dIsi_il, dIsi_is, dIsi_nb, dIsi_ni, dIsi_nt, dIsi_nl, dIsi_ti, dIsi_tb, dIsi_tl, dIsi_ts, dIsi_li, dIsi_lb, dIsi_lt, dIsi_ls, dIsi_si, dIsi_sb, dIsi_st, dIsi_ss, dEq_bl, dNe_bl, dInRange, dRgB, dCall_of, dCallO_of, AV.ok, AV.sv, slotsOf, setIo_un, setIo_d, setIo_ol, setIo_op, setIo_ok, setIo_ot, own_un, own_d, own_ol, own_op, own_ok, own_ot, io_un, io_d, io_ol, io_op, io_ok, io_ot, putBack, AV.isSl, dgSeq, dgCons, dgNil, seqOf_sq, seqOf_tup', seqOf_lst, seqOf_fl, dLook, dLookT, lookAll, SV.look, dAugI, dAugL, dRetO, dRetV, dChain_eq, dNeg, dIter_eq, itD_sq, itD_tup, itD_lst, itD_fl, dRng1, dRng2, dRng3, dEnum_eq, enD_one, dZip, start0, dYes, ioAll, wipeS, List.mem_cons, List.not_mem_nil,  dSumA, dMaxA, dMinA, dAllA, dAnyA, dOnA, intsL_ints, blsL_bls, atI_0, atI_1, atI_2, atI_3, ixN_lit0, ixN_lit1, ixN_lit2, ixN_lit3,
  List.getElem?_cons_zero, List.getElem?_cons_succ, List.set_cons_zero, List.set_cons_succ, List.map_cons, List.map_nil, List.length_cons, List.length_nil, List.getD_cons_zero, List.getD_cons_succ, List.mapIdx_cons, List.mapIdx_nil, List.findIdx?_cons, List.findIdx?_nil, List.all_cons, List.all_nil, List.append_nil, List.cons_append, List.nil_append, List.replicate_succ, List.replicate_zero, Option.map_some, Option.map_none, List.nodup_cons, List.nodup_nil, List.not_mem_nil, Bool.and_true, Bool.true_and, Bool.and_self, Bool.not_true, Bool.not_false, if_true, if_false, reduceIte, reduceCtorEq, Nat.reduceAdd, Nat.reduceSub, Nat.reduceBEq, Nat.reduceEqDiff, decide_true, decide_false, and_true, true_and, or_false, false_or, not_false_eq_true, beq_self_eq_true, Bool.false_eq_true, Option.getD_some, Option.getD_none, Option.some.injEq, exists_eq_left', ne_self_iff_false, Nat.zero_add, Nat.reduceLeDiff, Int.reduceNeg, and_self, show (0 : Int) + ((1 : Nat) : Int) = 1 by rfl]
        exact ⟨_, (by repeat (first | exact Weaks.nil | refine Weaks.cons (by first | exact Weak.refl _ | exact Weak.un rfl | (refine Weak.op ?_; assumption)) ?_)), rfl⟩
    · subst e
      exact Ret.same h rfl
theorem rd_within : Reads 2 N_within S_within ds_within := by
  intro svs ret exc h
  obtain ⟨i, j, p, q, rfl, h⟩ := h
  refine ⟨rfl, ?_⟩
  simp only [ds_within, pr, dSeq, dNext, dAsg, dgName, dStore, dIfS, dTest_eq, tsD_bl, dOp, dVar, dC, dRet, dRetN, dNever, dBrk, dCnt, dAnd, dOr, dNot, dAndV_eq, dOrV_eq, dNotV_eq, dIf, dNil, dCons, dConsS, dArgs, avD, dCB, dCBO, dInt1_int, dInt2_int, dIntOf_int, dIntOf_bl, dTup, dLst, dFrz, dDrop, dEq_int, dNe_int, dI0_int, dI2_int, dLt_int, dLe_int, dGt_int, dGe_int, dIsN_non, dNotN_non, dIsB_bl, dNotB_bl, isNon_sq, isNon_non, isNon_int, isNon_bl, isNon_str, isNon_tup, isNon_lst, dIx_sq, dIx_tup, dIx_lst, dIx_fl, dIxO, ixO_m, dSetI, dMet, mApp, mPop, mPopAt, mIns, mClear, dPart, dNoPart, dSl_eq, slD_sq, slD_tup, slD_lst, slD_fl, dSlL, dListOf_sq, dListOf_tup, dListOf_lst, dTupOf_sq, dTupOf_tup, dTupOf_lst, dLen_sq, dLen_tup, dLen_lst, dLen_fl, dAdd_int, dAdd_tup, dAdd_lst, dAdd_str, dAddO, dAsgO, dStill, dOpen, dHide, dIsi_ii, dIsi_ib, dIsi_tt, dIsi_ll, dIsi_sq, dIsiT_row, dIsi_bb, dIsi_bi, dIsi_bt, dIsi_it, dIsi_il, dIsi_is, dIsi_nb, dIsi_ni, dIsi_nt, dIsi_nl, dIsi_ti, dIsi_tb, dIsi_tl, dIsi_ts, dIsi_li, dIsi_lb, dIsi_lt, dIsi_ls, dIsi_si, dIsi_sb, dIsi_st, dIsi_ss, dEq_bl, dNe_bl, dInRange, dRgB, dCall_of, dCallO_of, AV.ok, AV.sv, slotsOf, setIo_un, setIo_d, setIo_ol, setIo_op, setIo_ok, setIo_ot, own_un, own_d, own_ol, own_op, own_ok, own_ot, io_un, io_d, io_ol, io_op, io_ok, io_ot, putBack, AV.isSl, dgSeq, dgCons, dgNil, seqOf_sq, seqOf_tup', seqOf_lst, seqOf_fl, dLook, dLookT, lookAll, SV.look, dAugI, dAugL, dRetO, dRetV, dChain_eq, dNeg, dIter_eq, itD_sq, itD_tup, itD_lst, itD_fl, dRng1, dRng2, dRng3, dEnum_eq, enD_one, dZip, start0, dYes, ioAll, wipeS, List.mem_cons, List.not_mem_nil,  dSumA, dMaxA, dMinA, dAllA, dAnyA, dOnA, intsL_ints, blsL_bls, atI_0, atI_1, atI_2, atI_3, ixN_lit0, ixN_lit1, ixN_lit2, ixN_lit3,
  List.getElem?_cons_zero, List.getElem?_cons_succ, List.set_cons_zero, List.set_cons_succ, List.map_cons, List.map_nil, List.length_cons, List.length_nil, List.getD_cons_zero, List.getD_cons_succ, List.mapIdx_cons, List.mapIdx_nil, List.findIdx?_cons, List.findIdx?_nil, List.all_cons, List.all_nil, List.append_nil, List.cons_append, List.nil_append, List.replicate_succ, List.replicate_zero, Option.map_some, Option.map_none, List.nodup_cons, List.nodup_nil, List.not_mem_nil, Bool.and_true, Bool.true_and, Bool.and_self, Bool.not_true, Bool.not_false, if_true, if_false, reduceIte, reduceCtorEq, Nat.reduceAdd, Nat.reduceSub, Nat.reduceBEq, Nat.reduceEqDiff, decide_true, decide_false, and_true, true_and, or_false, false_or, not_false_eq_true, beq_self_eq_true, Bool.false_eq_true, Option.getD_some, Option.getD_none, Option.some.injEq, exists_eq_left', ne_self_iff_false, Nat.zero_add, Nat.reduceLeDiff, Int.reduceNeg, and_self]
  by_cases h1 : q.1 ≤ p.1
  · rw [if_pos (decide_eq_true h1)]; rw [decide_eq_true h1, Bool.true_and] at h; exact Ret.same h rfl
  · rw [if_neg (by simpa using h1)]; rw [decide_eq_false h1, Bool.false_and] at h; exact Ret.same h rfl
theorem rd_lies_in : Reads 2 N_lies_in S_lies_in ds_lies_in := by
  intro svs ret exc h
  obtain ⟨i, j, p, q, rfl, h⟩ := h
  refine ⟨rfl, ?_⟩
  simp only [ds_lies_in, dSeq, dNext, dAsg, dgName, dStore, dIfS, dTest_eq, tsD_bl, dOp, dVar, dC, dRet, dRetN, dNever, dBrk, dCnt, dAnd, dOr, dNot, dAndV_eq, dOrV_eq, dNotV_eq, dIf, dNil, dCons, dConsS, dArgs, avD, dCB, dCBO, dInt1_int, dInt2_int, dIntOf_int, dIntOf_bl, dTup, dLst, dFrz, dDrop, dEq_int, dNe_int, dI0_int, dI2_int, dLt_int, dLe_int, dGt_int, dGe_int, dIsN_non, dNotN_non, dIsB_bl, dNotB_bl, isNon_sq, isNon_non, isNon_int, isNon_bl, isNon_str, isNon_tup, isNon_lst, dIx_sq, dIx_tup, dIx_lst, dIx_fl, dIxO, ixO_m, dSetI, dMet, mApp, mPop, mPopAt, mIns, mClear, dPart, dNoPart, dSl_eq, slD_sq, slD_tup, slD_lst, slD_fl, dSlL, dListOf_sq, dListOf_tup, dListOf_lst, dTupOf_sq, dTupOf_tup, dTupOf_lst, dLen_sq, dLen_tup, dLen_lst, dLen_fl, dAdd_int, dAdd_tup, dAdd_lst, dAdd_str, dAddO, dAsgO, dStill, dOpen, dHide, dIsi_ii, dIsi_ib, dIsi_tt, dIsi_ll, dIsi_sq, dIsiT_row, dIsi_bb, dIsi_bi, dIsi_bt, dIsi_it, dIsi_il, dIsi_is, dIsi_nb, dIsi_ni, dIsi_nt, dIsi_nl, dIsi_ti, dIsi_tb, dIsi_tl, dIsi_ts, dIsi_li, dIsi_lb, dIsi_lt, dIsi_ls, dIsi_si, dIsi_sb, dIsi_st, dIsi_ss, dEq_bl, dNe_bl, dInRange, dRgB, dCall_of, dCallO_of, AV.ok, AV.sv, slotsOf, setIo_un, setIo_d, setIo_ol, setIo_op, setIo_ok, setIo_ot, own_un, own_d, own_ol, own_op, own_ok, own_ot, io_un, io_d, io_ol, io_op, io_ok, io_ot, putBack, AV.isSl, dgSeq, dgCons, dgNil, seqOf_sq, seqOf_tup', seqOf_lst, seqOf_fl, dLook, dLookT, lookAll, SV.look, dAugI, dAugL, dRetO, dRetV, dChain_eq, dNeg, dIter_eq, itD_sq, itD_tup, itD_lst, itD_fl, dRng1, dRng2, dRng3, dEnum_eq, enD_one, dZip, start0, dYes, ioAll, wipeS, List.mem_cons, List.not_mem_nil,  dSumA, dMaxA, dMinA, dAllA, dAnyA, dOnA, intsL_ints, blsL_bls, atI_0, atI_1, atI_2, atI_3, ixN_lit0, ixN_lit1, ixN_lit2, ixN_lit3,
  List.getElem?_cons_zero, List.getElem?_cons_succ, List.set_cons_zero, List.set_cons_succ, List.map_cons, List.map_nil, List.length_cons, List.length_nil, List.getD_cons_zero, List.getD_cons_succ, List.mapIdx_cons, List.mapIdx_nil, List.findIdx?_cons, List.findIdx?_nil, List.all_cons, List.all_nil, List.append_nil, List.cons_append, List.nil_append, List.replicate_succ, List.replicate_zero, Option.map_some, Option.map_none, List.nodup_cons, List.nodup_nil, List.not_mem_nil, Bool.and_true, Bool.true_and, Bool.and_self, Bool.not_true, Bool.not_false, if_true, if_false, reduceIte, reduceCtorEq, Nat.reduceAdd, Nat.reduceSub, Nat.reduceBEq, Nat.reduceEqDiff, decide_true, decide_false, and_true, true_and, or_false, false_or, not_false_eq_true, beq_self_eq_true, Bool.false_eq_true, Option.getD_some, Option.getD_none, Option.some.injEq, exists_eq_left', ne_self_iff_false, Nat.zero_add, Nat.reduceLeDiff, Int.reduceNeg, and_self]
  exact ⟨i, j, p, q, rfl, Ret.same h rfl⟩
theorem rd_meets : Reads 2 N_meets S_meets ds_meets := by
  intro svs ret exc h
  obtain ⟨i, j, p, q, rfl, h⟩ := h
  refine ⟨rfl, ?_⟩
  simp only [ds_meets, pr, dSeq, dNext, dAsg, dgName, dStore, dIfS, dTest_eq, tsD_bl, dOp, dVar, dC, dRet, dRetN, dNever, dBrk, dCnt, dAnd, dOr, dNot, dAndV_eq, dOrV_eq, dNotV_eq, dIf, dNil, dCons, dConsS, dArgs, avD, dCB, dCBO, dInt1_int, dInt2_int, dIntOf_int, dIntOf_bl, dTup, dLst, dFrz, dDrop, dEq_int, dNe_int, dI0_int, dI2_int, dLt_int, dLe_int, dGt_int, dGe_int, dIsN_non, dNotN_non, dIsB_bl, dNotB_bl, isNon_sq, isNon_non, isNon_int, isNon_bl, isNon_str, isNon_tup, isNon_lst, dIx_sq, dIx_tup, dIx_lst, dIx_fl, dIxO, ixO_m, dSetI, dMet, mApp, mPop, mPopAt, mIns, mClear, dPart, dNoPart, dSl_eq, slD_sq, slD_tup, slD_lst, slD_fl, dSlL, dListOf_sq, dListOf_tup, dListOf_lst, dTupOf_sq, dTupOf_tup, dTupOf_lst, dLen_sq, dLen_tup, dLen_lst, dLen_fl, dAdd_int, dAdd_tup, dAdd_lst, dAdd_str, dAddO, dAsgO, dStill, dOpen, dHide, dIsi_ii, dIsi_ib, dIsi_tt, dIsi_ll, dIsi_sq, dIsiT_row, dIsi_bb, dIsi_bi, dIsi_bt, dIsi_it, dIsi_il, dIsi_is, dIsi_nb, dIsi_ni, dIsi_nt, dIsi_nl, dIsi_ti, dIsi_tb, dIsi_tl, dIsi_ts, dIsi_li, dIsi_lb, dIsi_lt, dIsi_ls, dIsi_si, dIsi_sb, dIsi_st, dIsi_ss, dEq_bl, dNe_bl, dInRange, dRgB, dCall_of, dCallO_of, AV.ok, AV.sv, slotsOf, setIo_un, setIo_d, setIo_ol, setIo_op, setIo_ok, setIo_ot, own_un, own_d, own_ol, own_op, own_ok, own_ot, io_un, io_d, io_ol, io_op, io_ok, io_ot, putBack, AV.isSl, dgSeq, dgCons, dgNil, seqOf_sq, seqOf_tup', seqOf_lst, seqOf_fl, dLook, dLookT, lookAll, SV.look, dAugI, dAugL, dRetO, dRetV, dChain_eq, dNeg, dIter_eq, itD_sq, itD_tup, itD_lst, itD_fl, dRng1, dRng2, dRng3, dEnum_eq, enD_one, dZip, start0, dYes, ioAll, wipeS, List.mem_cons, List.not_mem_nil,  dSumA, dMaxA, dMinA, dAllA, dAnyA, dOnA, intsL_ints, blsL_bls, atI_0, atI_1, atI_2, atI_3, ixN_lit0, ixN_lit1, ixN_lit2, ixN_lit3,
  List.getElem?_cons_zero, List.getElem?_cons_succ, List.set_cons_zero, List.set_cons_succ, List.map_cons, List.map_nil, List.length_cons, List.length_nil, List.getD_cons_zero, List.getD_cons_succ, List.mapIdx_cons, List.mapIdx_nil, List.findIdx?_cons, List.findIdx?_nil, List.all_cons, List.all_nil, List.append_nil, List.cons_append, List.nil_append, List.replicate_succ, List.replicate_zero, Option.map_some, Option.map_none, List.nodup_cons, List.nodup_nil, List.not_mem_nil, Bool.and_true, Bool.true_and, Bool.and_self, Bool.not_true, Bool.not_false, if_true, if_false, reduceIte, reduceCtorEq, Nat.reduceAdd, Nat.reduceSub, Nat.reduceBEq, Nat.reduceEqDiff, decide_true, decide_false, and_true, true_and, or_false, false_or, not_false_eq_true, beq_self_eq_true, Bool.false_eq_true, Option.getD_some, Option.getD_none, Option.some.injEq, exists_eq_left', ne_self_iff_false, Nat.zero_add, Nat.reduceLeDiff, Int.reduceNeg, and_self]
  rw [max_if, min_if]
  exact Ret.same h rfl
theorem rd_common_part : Reads 2 N_common_part S_common_part ds_common_part := by
  intro svs ret exc h
  obtain ⟨i, j, p, q, rfl, h⟩ := h
  refine ⟨rfl, ?_⟩
  simp only [ds_common_part, ds_common_part_s1, dSeq, dNext, dAsg, dgName, dStore, dIfS, dTest_eq, tsD_bl, dOp, dVar, dC, dRet, dRetN, dNever, dBrk, dCnt, dAnd, dOr, dNot, dAndV_eq, dOrV_eq, dNotV_eq, dIf, dNil, dCons, dConsS, dArgs, avD, dCB, dCBO, dInt1_int, dInt2_int, dIntOf_int, dIntOf_bl, dTup, dLst, dFrz, dDrop, dEq_int, dNe_int, dI0_int, dI2_int, dLt_int, dLe_int, dGt_int, dGe_int, dIsN_non, dNotN_non, dIsB_bl, dNotB_bl, isNon_sq, isNon_non, isNon_int, isNon_bl, isNon_str, isNon_tup, isNon_lst, dIx_sq, dIx_tup, dIx_lst, dIx_fl, dIxO, ixO_m, dSetI, dMet, mApp, mPop, mPopAt, mIns, mClear, dPart, dNoPart, dSl_eq, slD_sq, slD_tup, slD_lst, slD_fl, dSlL, dListOf_sq, dListOf_tup, dListOf_lst, dTupOf_sq, dTupOf_tup, dTupOf_lst, dLen_sq, dLen_tup, dLen_lst, dLen_fl, dAdd_int, dAdd_tup, dAdd_lst, dAdd_str, dAddO, dAsgO, dStill, dOpen, dHide, dIsi_ii, dIsi_ib, dIsi_tt, dIsi_ll, dIsi_sq, dIsiT_row, dIsi_bb, dIsi_bi, dIsi_bt, dIsi_it, dIsi_il, dIsi_is, dIsi_nb, dIsi_ni, dIsi_nt, dIsi_nl, dIsi_ti, dIsi_tb, dIsi_tl, dIsi_ts, dIsi_li, dIsi_lb, dIsi_lt, dIsi_ls, dIsi_si, dIsi_sb, dIsi_st, dIsi_ss, dEq_bl, dNe_bl, dInRange, dRgB, dCall_of, dCallO_of, AV.ok, AV.sv, slotsOf, setIo_un, setIo_d, setIo_ol, setIo_op, setIo_ok, setIo_ot, own_un, own_d, own_ol, own_op, own_ok, own_ot, io_un, io_d, io_ol, io_op, io_ok, io_ot, putBack, AV.isSl, dgSeq, dgCons, dgNil, seqOf_sq, seqOf_tup', seqOf_lst, seqOf_fl, dLook, dLookT, lookAll, SV.look, dAugI, dAugL, dRetO, dRetV, dChain_eq, dNeg, dIter_eq, itD_sq, itD_tup, itD_lst, itD_fl, dRng1, dRng2, dRng3, dEnum_eq, enD_one, dZip, start0, dYes, ioAll, wipeS, List.mem_cons, List.not_mem_nil,  dSumA, dMaxA, dMinA, dAllA, dAnyA, dOnA, intsL_ints, blsL_bls, atI_0, atI_1, atI_2, atI_3, ixN_lit0, ixN_lit1, ixN_lit2, ixN_lit3,
  List.getElem?_cons_zero, List.getElem?_cons_succ, List.set_cons_zero, List.set_cons_succ, List.map_cons, List.map_nil, List.length_cons, List.length_nil, List.getD_cons_zero, List.getD_cons_succ, List.mapIdx_cons, List.mapIdx_nil, List.findIdx?_cons, List.findIdx?_nil, List.all_cons, List.all_nil, List.append_nil, List.cons_append, List.nil_append, List.replicate_succ, List.replicate_zero, Option.map_some, Option.map_none, List.nodup_cons, List.nodup_nil, List.not_mem_nil, Bool.and_true, Bool.true_and, Bool.and_self, Bool.not_true, Bool.not_false, if_true, if_false, reduceIte, reduceCtorEq, Nat.reduceAdd, Nat.reduceSub, Nat.reduceBEq, Nat.reduceEqDiff, decide_true, decide_false, and_true, true_and, or_false, false_or, not_false_eq_true, beq_self_eq_true, Bool.false_eq_true, Option.getD_some, Option.getD_none, Option.some.injEq, exists_eq_left', ne_self_iff_false, Nat.zero_add, Nat.reduceLeDiff, Int.reduceNeg, and_self]
  refine ⟨i, j, p, q, rfl, ?_⟩
  simp only [pr, dSeq, dNext, dAsg, dgName, dStore, dIfS, dTest_eq, tsD_bl, dOp, dVar, dC, dRet, dRetN, dNever, dBrk, dCnt, dAnd, dOr, dNot, dAndV_eq, dOrV_eq, dNotV_eq, dIf, dNil, dCons, dConsS, dArgs, avD, dCB, dCBO, dInt1_int, dInt2_int, dIntOf_int, dIntOf_bl, dTup, dLst, dFrz, dDrop, dEq_int, dNe_int, dI0_int, dI2_int, dLt_int, dLe_int, dGt_int, dGe_int, dIsN_non, dNotN_non, dIsB_bl, dNotB_bl, isNon_sq, isNon_non, isNon_int, isNon_bl, isNon_str, isNon_tup, isNon_lst, dIx_sq, dIx_tup, dIx_lst, dIx_fl, dIxO, ixO_m, dSetI, dMet, mApp, mPop, mPopAt, mIns, mClear, dPart, dNoPart, dSl_eq, slD_sq, slD_tup, slD_lst, slD_fl, dSlL, dListOf_sq, dListOf_tup, dListOf_lst, dTupOf_sq, dTupOf_tup, dTupOf_lst, dLen_sq, dLen_tup, dLen_lst, dLen_fl, dAdd_int, dAdd_tup, dAdd_lst, dAdd_str, dAddO, dAsgO, dStill, dOpen, dHide, dIsi_ii, dIsi_ib, dIsi_tt, dIsi_ll, dIsi_sq, dIsiT_row, dIsi_bb, dIsi_bi, dIsi_bt, dIsi_it, dIsi_il, dIsi_is, dIsi_nb, dIsi_ni, dIsi_nt, dIsi_nl, dIsi_ti, dIsi_tb, dIsi_tl, dIsi_ts, dIsi_li, dIsi_lb, dIsi_lt, dIsi_ls, dIsi_si, dIsi_sb, dIsi_st, dIsi_ss, dEq_bl, dNe_bl, dInRange, dRgB, dCall_of, dCallO_of, AV.ok, AV.sv, slotsOf, setIo_un, setIo_d, setIo_ol, setIo_op, setIo_ok, setIo_ot, own_un, own_d, own_ol, own_op, own_ok, own_ot, io_un, io_d, io_ol, io_op, io_ok, io_ot, putBack, AV.isSl, dgSeq, dgCons, dgNil, seqOf_sq, seqOf_tup', seqOf_lst, seqOf_fl, dLook, dLookT, lookAll, SV.look, dAugI, dAugL, dRetO, dRetV, dChain_eq, dNeg, dIter_eq, itD_sq, itD_tup, itD_lst, itD_fl, dRng1, dRng2, dRng3, dEnum_eq, enD_one, dZip, start0, dYes, ioAll, wipeS, List.mem_cons, List.not_mem_nil,  dSumA, dMaxA, dMinA, dAllA, dAnyA, dOnA, intsL_ints, blsL_bls, atI_0, atI_1, atI_2, atI_3, ixN_lit0, ixN_lit1, ixN_lit2, ixN_lit3,
  List.getElem?_cons_zero, List.getElem?_cons_succ, List.set_cons_zero, List.set_cons_succ, List.map_cons, List.map_nil, List.length_cons, List.length_nil, List.getD_cons_zero, List.getD_cons_succ, List.mapIdx_cons, List.mapIdx_nil, List.findIdx?_cons, List.findIdx?_nil, List.all_cons, List.all_nil, List.append_nil, List.cons_append, List.nil_append, List.replicate_succ, List.replicate_zero, Option.map_some, Option.map_none, List.nodup_cons, List.nodup_nil, List.not_mem_nil, Bool.and_true, Bool.true_and, Bool.and_self, Bool.not_true, Bool.not_false, if_true, if_false, reduceIte, reduceCtorEq, Nat.reduceAdd, Nat.reduceSub, Nat.reduceBEq, Nat.reduceEqDiff, decide_true, decide_false, and_true, true_and, or_false, false_or, not_false_eq_true, beq_self_eq_true, Bool.false_eq_true, Option.getD_some, Option.getD_none, Option.some.injEq, exists_eq_left', ne_self_iff_false, Nat.zero_add, Nat.reduceLeDiff, Int.reduceNeg, and_self]
  by_cases h1 : max p.1 q.1 ≤ min p.2 q.2
  · rw [if_pos h1] at h
    simp only [h1, dSeq, dNext, dAsg, dgName, dStore, dIfS, dTest_eq, tsD_bl, dOp, dVar, dC, dRet, dRetN, dNever, dBrk, dCnt, dAnd, dOr, dNot, dAndV_eq, dOrV_eq, dNotV_eq, dIf, dNil, dCons, dConsS, dArgs, avD, dCB, dCBO, dInt1_int, dInt2_int, dIntOf_int, dIntOf_bl, dTup, dLst, dFrz, dDrop, dEq_int, dNe_int, dI0_int, dI2_int, dLt_int, dLe_int, dGt_int, dGe_int, dIsN_non, dNotN_non, dIsB_bl, dNotB_bl, isNon_sq, isNon_non, isNon_int, isNon_bl, isNon_str, isNon_tup, isNon_lst, dIx_sq, dIx_tup, dIx_lst, dIx_fl, dIxO, ixO_m, dSetI, dMet, mApp, mPop, mPopAt, mIns, mClear, dPart, dNoPart, dSl_eq, slD_sq, slD_tup, slD_lst, slD_fl, dSlL, dListOf_sq, dListOf_tup, dListOf_lst, dTupOf_sq, dTupOf_tup, dTupOf_lst, dLen_sq, dLen_tup, dLen_lst, dLen_fl, dAdd_int, dAdd_tup, dAdd_lst, dAdd_str, dAddO, dAsgO, dStill, dOpen, dHide, dIsi_ii, dIsi_ib, dIsi_tt, dIsi_ll, dIsi_sq, dIsiT_row, dIsi_bb, dIsi_bi, dIsi_bt, dIsi_it, dIsi_il, dIsi_is, dIsi_nb, dIsi_ni, dIsi_nt, dIsi_nl, dIsi_ti, dIsi_tb, dIsi_tl, dIsi_ts, dIsi_li, dIsi_lb, dIsi_lt, dIsi_ls, dIsi_si, dIsi_sb, dIsi_st, dIsi_ss, dEq_bl, dNe_bl, dInRange, dRgB, dCall_of, dCallO_of, AV.ok, AV.sv, slotsOf, setIo_un, setIo_d, setIo_ol, setIo_op, setIo_ok, setIo_ot, own_un, own_d, own_ol, own_op, own_ok, own_ot, io_un, io_d, io_ol, io_op, io_ok, io_ot, putBack, AV.isSl, dgSeq, dgCons, dgNil, seqOf_sq, seqOf_tup', seqOf_lst, seqOf_fl, dLook, dLookT, lookAll, SV.look, dAugI, dAugL, dRetO, dRetV, dChain_eq, dNeg, dIter_eq, itD_sq, itD_tup, itD_lst, itD_fl, dRng1, dRng2, dRng3, dEnum_eq, enD_one, dZip, start0, dYes, ioAll, wipeS, List.mem_cons, List.not_mem_nil,  dSumA, dMaxA, dMinA, dAllA, dAnyA, dOnA, intsL_ints, blsL_bls, atI_0, atI_1, atI_2, atI_3, ixN_lit0, ixN_lit1, ixN_lit2, ixN_lit3,
  List.getElem?_cons_zero, List.getElem?_cons_succ, List.set_cons_zero, List.set_cons_succ, List.map_cons, List.map_nil, List.length_cons, List.length_nil, List.getD_cons_zero, List.getD_cons_succ, List.mapIdx_cons, List.mapIdx_nil, List.findIdx?_cons, List.findIdx?_nil, List.all_cons, List.all_nil, List.append_nil, List.cons_append, List.nil_append, List.replicate_succ, List.replicate_zero, Option.map_some, Option.map_none, List.nodup_cons, List.nodup_nil, List.not_mem_nil, Bool.and_true, Bool.true_and, Bool.and_self, Bool.not_true, Bool.not_false, if_true, if_false, reduceIte, reduceCtorEq, Nat.reduceAdd, Nat.reduceSub, Nat.reduceBEq, Nat.reduceEqDiff, decide_true, decide_false, and_true, true_and, or_false, false_or, not_false_eq_true, beq_self_eq_true, Bool.false_eq_true, Option.getD_some, Option.getD_none, Option.some.injEq, exists_eq_left', ne_self_iff_false, Nat.zero_add, Nat.reduceLeDiff, Int.reduceNeg, and_self]
    rw [max_if, min_if]
    exact Ret.same h rfl
  · rw [if_neg h1] at h
    simp only [h1, dSeq, dNext, dAsg, dgName, dStore, dIfS, dTest_eq, tsD_bl, dOp, dVar, dC, dRet, dRetN, dNever, dBrk, dCnt, dAnd, dOr, dNot, dAndV_eq, dOrV_eq, dNotV_eq, dIf, dNil, dCons, dConsS, dArgs, avD, dCB, dCBO, dInt1_int, dInt2_int, dIntOf_int, dIntOf_bl, dTup, dLst, dFrz, dDrop, dEq_int, dNe_int, dI0_int, dI2_int, dLt_int, dLe_int, dGt_int, dGe_int, dIsN_non, dNotN_non, dIsB_bl, dNotB_bl, isNon_sq, isNon_non, isNon_int, isNon_bl, isNon_str, isNon_tup, isNon_lst, dIx_sq, dIx_tup, dIx_lst, dIx_fl, dIxO, ixO_m, dSetI, dMet, mApp, mPop, mPopAt, mIns, mClear, dPart, dNoPart, dSl_eq, slD_sq, slD_tup, slD_lst, slD_fl, dSlL, dListOf_sq, dListOf_tup, dListOf_lst, dTupOf_sq, dTupOf_tup, dTupOf_lst, dLen_sq, dLen_tup, dLen_lst, dLen_fl, dAdd_int, dAdd_tup, dAdd_lst, dAdd_str, dAddO, dAsgO, dStill, dOpen, dHide, dIsi_ii, dIsi_ib, dIsi_tt, dIsi_ll, dIsi_sq, dIsiT_row, dIsi_bb, dIsi_bi, dIsi_bt, dIsi_it, dIsi_il, dIsi_is, dIsi_nb, dIsi_ni, dIsi_nt, dIsi_nl, dIsi_ti, dIsi_tb, dIsi_tl, dIsi_ts, dIsi_li, dIsi_lb, dIsi_lt, dIsi_ls, dIsi_si, dIsi_sb, dIsi_st, dIsi_ss, dEq_bl, dNe_bl, dInRange, dRgB, dCall_of, dCallO_of, AV.ok, AV.sv, slotsOf, setIo_un, setIo_d, setIo_ol, setIo_op, setIo_ok, setIo_ot, own_un, own_d, own_ol, own_op, own_ok, own_ot, io_un, io_d, io_ol, io_op, io_ok, io_ot, putBack, AV.isSl, dgSeq, dgCons, dgNil, seqOf_sq, seqOf_tup', seqOf_lst, seqOf_fl, dLook, dLookT, lookAll, SV.look, dAugI, dAugL, dRetO, dRetV, dChain_eq, dNeg, dIter_eq, itD_sq, itD_tup, itD_lst, itD_fl, dRng1, dRng2, dRng3, dEnum_eq, enD_one, dZip, start0, dYes, ioAll, wipeS, List.mem_cons, List.not_mem_nil,  dSumA, dMaxA, dMinA, dAllA, dAnyA, dOnA, intsL_ints, blsL_bls, atI_0, atI_1, atI_2, atI_3, ixN_lit0, ixN_lit1, ixN_lit2, ixN_lit3,
  List.getElem?_cons_zero, List.getElem?_cons_succ, List.set_cons_zero, List.set_cons_succ, List.map_cons, List.map_nil, List.length_cons, List.length_nil, List.getD_cons_zero, List.getD_cons_succ, List.mapIdx_cons, List.mapIdx_nil, List.findIdx?_cons, List.findIdx?_nil, List.all_cons, List.all_nil, List.append_nil, List.cons_append, List.nil_append, List.replicate_succ, List.replicate_zero, Option.map_some, Option.map_none, List.nodup_cons, List.nodup_nil, List.not_mem_nil, Bool.and_true, Bool.true_and, Bool.and_self, Bool.not_true, Bool.not_false, if_true, if_false, reduceIte, reduceCtorEq, Nat.reduceAdd, Nat.reduceSub, Nat.reduceBEq, Nat.reduceEqDiff, decide_true, decide_false, and_true, true_and, or_false, false_or, not_false_eq_true, beq_self_eq_true, Bool.false_eq_true, Option.getD_some, Option.getD_none, Option.some.injEq, exists_eq_left', ne_self_iff_false, Nat.zero_add, Nat.reduceLeDiff, Int.reduceNeg, and_self]
    exact Ret.same h rfl
theorem rd__law_scene : Reads 0 N__law_scene S__law_scene ds__law_scene := by
  intro svs ret exc h
  obtain ⟨rfl, h⟩ := h
  refine ⟨rfl, ?_⟩
  simp only [ds__law_scene, dSeq, dNext, dAsg, dgName, dStore, dIfS, dTest_eq, tsD_bl, dOp, dVar, dC, dRet, dRetN, dNever, dBrk, dCnt, dAnd, dOr, dNot, dAndV_eq, dOrV_eq, dNotV_eq, dIf, dNil, dCons, dConsS, dArgs, avD, dCB, dCBO, dInt1_int, dInt2_int, dIntOf_int, dIntOf_bl, dTup, dLst, dFrz, dDrop, dEq_int, dNe_int, dI0_int, dI2_int, dLt_int, dLe_int, dGt_int, dGe_int, dIsN_non, dNotN_non, dIsB_bl, dNotB_bl, isNon_sq, isNon_non, isNon_int, isNon_bl, isNon_str, isNon_tup, isNon_lst, dIx_sq, dIx_tup, dIx_lst, dIx_fl, dIxO, ixO_m, dSetI, dMet, mApp, mPop, mPopAt, mIns, mClear, dPart, dNoPart, dSl_eq, slD_sq, slD_tup, slD_lst, slD_fl, dSlL, dListOf_sq, dListOf_tup, dListOf_lst, dTupOf_sq, dTupOf_tup, dTupOf_lst, dLen_sq, dLen_tup, dLen_lst, dLen_fl, dAdd_int, dAdd_tup, dAdd_lst, dAdd_str, dAddO, dAsgO, dStill, dOpen, dHide, dIsi_ii, dIsi_ib, dIsi_tt, dIsi_ll, dIsi_sq, dIsiT_row, dIsi_bb, dIsi_bi, dIsi_bt, dIsi_it, dIsi_il, dIsi_is, dIsi_nb, dIsi_ni, dIsi_nt, dIsi_nl, dIsi_ti, dIsi_tb, dIsi_tl, dIsi_ts, dIsi_li, dIsi_lb, dIsi_lt, dIsi_ls, dIsi_si, dIsi_sb, dIsi_st, dIsi_ss, dEq_bl, dNe_bl, dInRange, dRgB, dCall_of, dCallO_of, AV.ok, AV.sv, slotsOf, setIo_un, setIo_d, setIo_ol, setIo_op, setIo_ok, setIo_ot, own_un, own_d, own_ol, own_op, own_ok, own_ot, io_un, io_d, io_ol, io_op, io_ok, io_ot, putBack, AV.isSl, dgSeq, dgCons, dgNil, seqOf_sq, seqOf_tup', seqOf_lst, seqOf_fl, dLook, dLookT, lookAll, SV.look, dAugI, dAugL, dRetO, dRetV, dChain_eq, dNeg, dIter_eq, itD_sq, itD_tup, itD_lst, itD_fl, dRng1, dRng2, dRng3, dEnum_eq, enD_one, dZip, start0, dYes, ioAll, wipeS, List.mem_cons, List.not_mem_nil,  dSumA, dMaxA, dMinA, dAllA, dAnyA, dOnA, intsL_ints, blsL_bls, atI_0, atI_1, atI_2, atI_3, ixN_lit0, ixN_lit1, ixN_lit2, ixN_lit3,
  List.getElem?_cons_zero, List.getElem?_cons_succ, List.set_cons_zero, List.set_cons_succ, List.map_cons, List.map_nil, List.length_cons, List.length_nil, List.getD_cons_zero, List.getD_cons_succ, List.mapIdx_cons, List.mapIdx_nil, List.findIdx?_cons, List.findIdx?_nil, List.all_cons, List.all_nil, List.append_nil, List.cons_append, List.nil_append, List.replicate_succ, List.replicate_zero, Option.map_some, Option.map_none, List.nodup_cons, List.nodup_nil, List.not_mem_nil, Bool.and_true, Bool.true_and, Bool.and_self, Bool.not_true, Bool.not_false, if_true, if_false, reduceIte, reduceCtorEq, Nat.reduceAdd, Nat.reduceSub, Nat.reduceBEq, Nat.reduceEqDiff, decide_true, decide_false, and_true, true_and, or_false, false_or, not_false_eq_true, beq_self_eq_true, Bool.false_eq_true, Option.getD_some, Option.getD_none, Option.some.injEq, exists_eq_left', ne_self_iff_false, Nat.zero_add, Nat.reduceLeDiff, Int.reduceNeg, and_self]
  refine ⟨true, true, (1, 2), (0, 2), rfl, ?_⟩
  walk_at "dl"
  refine ⟨true, true, (0, 2), (1, 2), rfl, ?_⟩
  walk_at "dl"
  refine ⟨false, false, (1, 1), (1, 1), rfl, ?_⟩
  simp only [ds__law_scene_s1, dSeq, dNext, dAsg, dgName, dStore, dIfS, dTest_eq, tsD_bl, dOp, dVar, dC, dRet, dRetN, dNever, dBrk, dCnt, dAnd, dOr, dNot, dAndV_eq, dOrV_eq, dNotV_eq, dIf, dNil, dCons, dConsS, dArgs, avD, dCB, dCBO, dInt1_int, dInt2_int, dIntOf_int, dIntOf_bl, dTup, dLst, dFrz, dDrop, dEq_int, dNe_int, dI0_int, dI2_int, dLt_int, dLe_int, dGt_int, dGe_int, dIsN_non, dNotN_non, dIsB_bl, dNotB_bl, isNon_sq, isNon_non, isNon_int, isNon_bl, isNon_str, isNon_tup, isNon_lst, dIx_sq, dIx_tup, dIx_lst, dIx_fl, dIxO, ixO_m, dSetI, dMet, mApp, mPop, mPopAt, mIns, mClear, dPart, dNoPart, dSl_eq, slD_sq, slD_tup, slD_lst, slD_fl, dSlL, dListOf_sq, dListOf_tup, dListOf_lst, dTupOf_sq, dTupOf_tup, dTupOf_lst, dLen_sq, dLen_tup, dLen_lst, dLen_fl, dAdd_int, dAdd_tup, dAdd_lst, dAdd_str, dAddO, dAsgO, dStill, dOpen, dHide, dIsi_ii, dIsi_ib, dIsi_tt, dIsi_ll, dIsi_sq, dIsiT_row, dIsi_bb, dIsi_bi, dIsi_bt, dIsi_it, dIsi_il, dIsi_is, dIsi_nb, dIsi_ni, dIsi_nt, dIsi_nl, dIsi_ti, dIsi_tb, dIsi_tl, dIsi_ts, dIsi_li, dIsi_lb, dIsi_lt, dIsi_ls, dIsi_si, dIsi_sb, dIsi_st, dIsi_ss, dEq_bl, dNe_bl, dInRange, dRgB, dCall_of, dCallO_of, AV.ok, AV.sv, slotsOf, setIo_un, setIo_d, setIo_ol, setIo_op, setIo_ok, setIo_ot, own_un, own_d, own_ol, own_op, own_ok, own_ot, io_un, io_d, io_ol, io_op, io_ok, io_ot, putBack, AV.isSl, dgSeq, dgCons, dgNil, seqOf_sq, seqOf_tup', seqOf_lst, seqOf_fl, dLook, dLookT, lookAll, SV.look, dAugI, dAugL, dRetO, dRetV, dChain_eq, dNeg, dIter_eq, itD_sq, itD_tup, itD_lst, itD_fl, dRng1, dRng2, dRng3, dEnum_eq, enD_one, dZip, start0, dYes, ioAll, wipeS, List.mem_cons, List.not_mem_nil,  dSumA, dMaxA, dMinA, dAllA, dAnyA, dOnA, intsL_ints, blsL_bls, atI_0, atI_1, atI_2, atI_3, ixN_lit0, ixN_lit1, ixN_lit2, ixN_lit3,
  List.getElem?_cons_zero, List.getElem?_cons_succ, List.set_cons_zero, List.set_cons_succ, List.map_cons, List.map_nil, List.length_cons, List.length_nil, List.getD_cons_zero, List.getD_cons_succ, List.mapIdx_cons, List.mapIdx_nil, List.findIdx?_cons, List.findIdx?_nil, List.all_cons, List.all_nil, List.append_nil, List.cons_append, List.nil_append, List.replicate_succ, List.replicate_zero, Option.map_some, Option.map_none, List.nodup_cons, List.nodup_nil, List.not_mem_nil, Bool.and_true, Bool.true_and, Bool.and_self, Bool.not_true, Bool.not_false, if_true, if_false, reduceIte, reduceCtorEq, Nat.reduceAdd, Nat.reduceSub, Nat.reduceBEq, Nat.reduceEqDiff, decide_true, decide_false, and_true, true_and, or_false, false_or, not_false_eq_true, beq_self_eq_true, Bool.false_eq_true, Option.getD_some, Option.getD_none, Option.some.injEq, exists_eq_left', ne_self_iff_false, Nat.zero_add, Nat.reduceLeDiff, Int.reduceNeg, and_self]
  refine ⟨true, true, (0, 1), (1, 2), rfl, ?_⟩
  walk_at "dl"
  refine ⟨true, true, (0, 1), (2, 2), rfl, ?_⟩
  walk_at "dl"
  refine ⟨false, false, (2, 5), (0, 23), rfl, ?_⟩
  simp only [ds__law_scene_s2, dSeq, dNext, dAsg, dgName, dStore, dIfS, dTest_eq, tsD_bl, dOp, dVar, dC, dRet, dRetN, dNever, dBrk, dCnt, dAnd, dOr, dNot, dAndV_eq, dOrV_eq, dNotV_eq, dIf, dNil, dCons, dConsS, dArgs, avD, dCB, dCBO, dInt1_int, dInt2_int, dIntOf_int, dIntOf_bl, dTup, dLst, dFrz, dDrop, dEq_int, dNe_int, dI0_int, dI2_int, dLt_int, dLe_int, dGt_int, dGe_int, dIsN_non, dNotN_non, dIsB_bl, dNotB_bl, isNon_sq, isNon_non, isNon_int, isNon_bl, isNon_str, isNon_tup, isNon_lst, dIx_sq, dIx_tup, dIx_lst, dIx_fl, dIxO, ixO_m, dSetI, dMet, mApp, mPop, mPopAt, mIns, mClear, dPart, dNoPart, dSl_eq, slD_sq, slD_tup, slD_lst, slD_fl, dSlL, dListOf_sq, dListOf_tup, dListOf_lst, dTupOf_sq, dTupOf_tup, dTupOf_lst, dLen_sq, dLen_tup, dLen_lst, dLen_fl, dAdd_int, dAdd_tup, dAdd_lst, dAdd_str, dAddO, dAsgO, dStill, dOpen, dHide, dIsi_ii, dIsi_ib, dIsi_tt, dIsi_ll, dIsi_sq, dIsiT_row, dIsi_bb, dIsi_bi, dIsi_bt, dIsi_it, dIsi_il, dIsi_is, dIsi_nb, dIsi_ni, dIsi_nt, dIsi_nl, dIsi_ti, dIsi_tb, dIsi_tl, dIsi_ts, dIsi_li, dIsi_lb, dIsi_lt, dIsi_ls, dIsi_si, dIsi_sb, dIsi_st, dIsi_ss, dEq_bl, dNe_bl, dInRange, dRgB, dCall_of, dCallO_of, AV.ok, AV.sv, slotsOf, setIo_un, setIo_d, setIo_ol, setIo_op, setIo_ok, setIo_ot, own_un, own_d, own_ol, own_op, own_ok, own_ot, io_un, io_d, io_ol, io_op, io_ok, io_ot, putBack, AV.isSl, dgSeq, dgCons, dgNil, seqOf_sq, seqOf_tup', seqOf_lst, seqOf_fl, dLook, dLookT, lookAll, SV.look, dAugI, dAugL, dRetO, dRetV, dChain_eq, dNeg, dIter_eq, itD_sq, itD_tup, itD_lst, itD_fl, dRng1, dRng2, dRng3, dEnum_eq, enD_one, dZip, start0, dYes, ioAll, wipeS, List.mem_cons, List.not_mem_nil,  dSumA, dMaxA, dMinA, dAllA, dAnyA, dOnA, intsL_ints, blsL_bls, atI_0, atI_1, atI_2, atI_3, ixN_lit0, ixN_lit1, ixN_lit2, ixN_lit3,
  List.getElem?_cons_zero, List.getElem?_cons_succ, List.set_cons_zero, List.set_cons_succ, List.map_cons, List.map_nil, List.length_cons, List.length_nil, List.getD_cons_zero, List.getD_cons_succ, List.mapIdx_cons, List.mapIdx_nil, List.findIdx?_cons, List.findIdx?_nil, List.all_cons, List.all_nil, List.append_nil, List.cons_append, List.nil_append, List.replicate_succ, List.replicate_zero, Option.map_some, Option.map_none, List.nodup_cons, List.nodup_nil, List.not_mem_nil, Bool.and_true, Bool.true_and, Bool.and_self, Bool.not_true, Bool.not_false, if_true, if_false, reduceIte, reduceCtorEq, Nat.reduceAdd, Nat.reduceSub, Nat.reduceBEq, Nat.reduceEqDiff, decide_true, decide_false, and_true, true_and, or_false, false_or, not_false_eq_true, beq_self_eq_true, Bool.false_eq_true, Option.getD_some, Option.getD_none, Option.some.injEq, exists_eq_left', ne_self_iff_false, Nat.zero_add, Nat.reduceLeDiff, Int.reduceNeg, and_self]
  refine ⟨true, true, (0, 1), (1, 2), rfl, pr true (1, 1), rfl, .inr ⟨_, rfl⟩, ?_⟩
  walk_at "dl"
  refine ⟨true, true, (0, 1), (2, 3), rfl, ?_⟩
  rw [if_neg (by decide)]
  simp only [ds__law_scene_s3, dSeq, dNext, dAsg, dgName, dStore, dIfS, dTest_eq, tsD_bl, dOp, dVar, dC, dRet, dRetN, dNever, dBrk, dCnt, dAnd, dOr, dNot, dAndV_eq, dOrV_eq, dNotV_eq, dIf, dNil, dCons, dConsS, dArgs, avD, dCB, dCBO, dInt1_int, dInt2_int, dIntOf_int, dIntOf_bl, dTup, dLst, dFrz, dDrop, dEq_int, dNe_int, dI0_int, dI2_int, dLt_int, dLe_int, dGt_int, dGe_int, dIsN_non, dNotN_non, dIsB_bl, dNotB_bl, isNon_sq, isNon_non, isNon_int, isNon_bl, isNon_str, isNon_tup, isNon_lst, dIx_sq, dIx_tup, dIx_lst, dIx_fl, dIxO, ixO_m, dSetI, dMet, mApp, mPop, mPopAt, mIns, mClear, dPart, dNoPart, dSl_eq, slD_sq, slD_tup, slD_lst, slD_fl, dSlL, dListOf_sq, dListOf_tup, dListOf_lst, dTupOf_sq, dTupOf_tup, dTupOf_lst, dLen_sq, dLen_tup, dLen_lst, dLen_fl, dAdd_int, dAdd_tup, dAdd_lst, dAdd_str, dAddO, dAsgO, dStill, dOpen, dHide, dIsi_ii, dIsi_ib, dIsi_tt, dIsi_ll, dIsi_sq, dIsiT_row, dIsi_bb, dIsi_bi, dIsi_bt, dIsi_it, dIsi_il, dIsi_is, dIsi_nb, dIsi_ni, dIsi_nt, dIsi_nl, dIsi_ti, dIsi_tb, dIsi_tl, dIsi_ts, dIsi_li, dIsi_lb, dIsi_lt, dIsi_ls, dIsi_si, dIsi_sb, dIsi_st, dIsi_ss, dEq_bl, dNe_bl, dInRange, dRgB, dCall_of, dCallO_of, AV.ok, AV.sv, slotsOf, setIo_un, setIo_d, setIo_ol, setIo_op, setIo_ok, setIo_ot, own_un, own_d, own_ol, own_op, own_ok, own_ot, io_un, io_d, io_ol, io_op, io_ok, io_ot, putBack, AV.isSl, dgSeq, dgCons, dgNil, seqOf_sq, seqOf_tup', seqOf_lst, seqOf_fl, dLook, dLookT, lookAll, SV.look, dAugI, dAugL, dRetO, dRetV, dChain_eq, dNeg, dIter_eq, itD_sq, itD_tup, itD_lst, itD_fl, dRng1, dRng2, dRng3, dEnum_eq, enD_one, dZip, start0, dYes, ioAll, wipeS, List.mem_cons, List.not_mem_nil,  dSumA, dMaxA, dMinA, dAllA, dAnyA, dOnA, intsL_ints, blsL_bls, atI_0, atI_1, atI_2, atI_3, ixN_lit0, ixN_lit1, ixN_lit2, ixN_lit3,
  List.getElem?_cons_zero, List.getElem?_cons_succ, List.set_cons_zero, List.set_cons_succ, List.map_cons, List.map_nil, List.length_cons, List.length_nil, List.getD_cons_zero, List.getD_cons_succ, List.mapIdx_cons, List.mapIdx_nil, List.findIdx?_cons, List.findIdx?_nil, List.all_cons, List.all_nil, List.append_nil, List.cons_append, List.nil_append, List.replicate_succ, List.replicate_zero, Option.map_some, Option.map_none, List.nodup_cons, List.nodup_nil, List.not_mem_nil, Bool.and_true, Bool.true_and, Bool.and_self, Bool.not_true, Bool.not_false, if_true, if_false, reduceIte, reduceCtorEq, Nat.reduceAdd, Nat.reduceSub, Nat.reduceBEq, Nat.reduceEqDiff, decide_true, decide_false, and_true, true_and, or_false, false_or, not_false_eq_true, beq_self_eq_true, Bool.false_eq_true, Option.getD_some, Option.getD_none, Option.some.injEq, exists_eq_left', ne_self_iff_false, Nat.zero_add, Nat.reduceLeDiff, Int.reduceNeg, and_self]
  refine ⟨false, false, (0, 23), (2, 5), rfl, pr true (2, 5), rfl, .inr ⟨_, rfl⟩, ?_⟩
  walk_at "dl"
  refine ⟨true, true, (0, 1), (2, 3), rfl, ?_⟩
  walk_at "dl"
  exact Ret.same h rfl
theorem rd__law_draw : Reads 2 N__law_draw S__law_draw ds__law_draw := by
  intro svs ret exc h
  obtain ⟨many, rfl, h1, h2, h⟩ := h
  refine ⟨rfl, ?_⟩
  simp only [ds__law_draw, ds__law_draw_s4, ds__law_draw_s3, ds__law_draw_s2, ds__law_draw_s1, dSeq, dNext, dAsg, dgName, dStore, dIfS, dTest_eq, tsD_bl, dOp, dVar, dC, dRet, dRetN, dNever, dBrk, dCnt, dAnd, dOr, dNot, dAndV_eq, dOrV_eq, dNotV_eq, dIf, dNil, dCons, dConsS, dArgs, avD, dCB, dCBO, dInt1_int, dInt2_int, dIntOf_int, dIntOf_bl, dTup, dLst, dFrz, dDrop, dEq_int, dNe_int, dI0_int, dI2_int, dLt_int, dLe_int, dGt_int, dGe_int, dIsN_non, dNotN_non, dIsB_bl, dNotB_bl, isNon_sq, isNon_non, isNon_int, isNon_bl, isNon_str, isNon_tup, isNon_lst, dIx_sq, dIx_tup, dIx_lst, dIx_fl, dIxO, ixO_m, dSetI, dMet, mApp, mPop, mPopAt, mIns, mClear, dPart, dNoPart, dSl_eq, slD_sq, slD_tup, slD_lst, slD_fl, dSlL, dListOf_sq, dListOf_tup, dListOf_lst, dTupOf_sq, dTupOf_tup, dTupOf_lst, dLen_sq, dLen_tup, dLen_lst, dLen_fl, dAdd_int, dAdd_tup, dAdd_lst, dAdd_str, dAddO, dAsgO, dStill, dOpen, dHide, dIsi_ii, dIsi_ib, dIsi_tt, dIsi_ll, dIsi_sq, dIsiT_row, dIsi_bb, dIsi_bi, dIsi_bt, dIsi_it, dIsi_il, dIsi_is, dIsi_nb, dIsi_ni, dIsi_nt, dIsi_nl, dIsi_ti, dIsi_tb, dIsi_tl, dIsi_ts, dIsi_li, dIsi_lb, dIsi_lt, dIsi_ls, dIsi_si, dIsi_sb, dIsi_st, dIsi_ss, dEq_bl, dNe_bl, dInRange, dRgB, dCall_of, dCallO_of, AV.ok, AV.sv, slotsOf, setIo_un, setIo_d, setIo_ol, setIo_op, setIo_ok, setIo_ot, own_un, own_d, own_ol, own_op, own_ok, own_ot, io_un, io_d, io_ol, io_op, io_ok, io_ot, putBack, AV.isSl, dgSeq, dgCons, dgNil, seqOf_sq, seqOf_tup', seqOf_lst, seqOf_fl, dLook, dLookT, lookAll, SV.look, dAugI, dAugL, dRetO, dRetV, dChain_eq, dNeg, dIter_eq, itD_sq, itD_tup, itD_lst, itD_fl, dRng1, dRng2, dRng3, dEnum_eq, enD_one, dZip, start0, dYes, ioAll, wipeS, List.mem_cons, List.not_mem_nil,  dSumA, dMaxA, dMinA, dAllA, dAnyA, dOnA, intsL_ints, blsL_bls, atI_0, atI_1, atI_2, atI_3, ixN_lit0, ixN_lit1, ixN_lit2, ixN_lit3,
  List.getElem?_cons_zero, List.getElem?_cons_succ, List.set_cons_zero, List.set_cons_succ, List.map_cons, List.map_nil, List.length_cons, List.length_nil, List.getD_cons_zero, List.getD_cons_succ, List.mapIdx_cons, List.mapIdx_nil, List.findIdx?_cons, List.findIdx?_nil, List.all_cons, List.all_nil, List.append_nil, List.cons_append, List.nil_append, List.replicate_succ, List.replicate_zero, Option.map_some, Option.map_none, List.nodup_cons, List.nodup_nil, List.not_mem_nil, Bool.and_true, Bool.true_and, Bool.and_self, Bool.not_true, Bool.not_false, if_true, if_false, reduceIte, reduceCtorEq, Nat.reduceAdd, Nat.reduceSub, Nat.reduceBEq, Nat.reduceEqDiff, decide_true, decide_false, and_true, true_and, or_false, false_or, not_false_eq_true, beq_self_eq_true, Bool.false_eq_true, Option.getD_some, Option.getD_none, Option.some.injEq, exists_eq_left', ne_self_iff_false, Nat.zero_add, Nat.reduceLeDiff, Int.reduceNeg, and_self]
  rintro xs ⟨s, a, b, gs, rfl, s1, s2, b1⟩
  walk_at "dl"
  have fin : ∀ (s a b : Int) (u w : SV), w.io = false → u.io = false → 0 ≤ s → s < 2305843009213693951 → 0 ≤ b → ∀ r, 0 ≤ r → r < many → ∀ ρ, ρ = [.ol true [.int s, .int a, .int b, .lst (gs.map D.int)], .d (.int many), u, w] → Ret 2 ret (.int r) ρ := fun s a b u w _ _ s1 s2 b1 r r1 r2 ρ e => by
    subst e
    exact .of _ (h r r1 r2) rfl (.cons (.op ⟨s, a, b, gs, rfl, s1, s2, b1⟩) (.cons (.un rfl) .nil))
  have last : ∀ (a b : Int), 0 ≤ b → CMul s s ∧ (0 : Int) < 2305843009213693951 ∧ CDiv ((s * s + 24593) % 2305843009213693951) 1048576 ∧ 0 < many ∧ Ret 2 ret (.int ((s * s + 24593) % 2305843009213693951 / 1048576 % many)) [.ol true [.int ((s * s + 24593) % 2305843009213693951), .int a, .int b, .lst (gs.map D.int)], .d (.int many), .d (.lst (gs.map D.int)), .un] := fun a b hb => by
    refine ⟨.inl ⟨by omega, by omega⟩, by decide, ⟨by decide, by decide⟩, h1, ?_⟩
    exact fin _ a b _ _ rfl rfl (Int.emod_nonneg _ (by decide)) (Int.emod_lt_of_pos _ (by decide)) hb _ (Int.emod_nonneg _ (by omega)) (Int.emod_lt_of_pos _ h1) _ rfl
  have mid : ∀ (a b : Int), 0 ≤ b → 0 < many ∧ CDiv a many ∧ Ret 2 ret (.int (a % many)) [.ol true [.int s, .int (a / many), .int b, .lst (gs.map D.int)], .d (.int many), .d (.lst (gs.map D.int)), .d (.int (a % many))] := fun a b hb =>
    ⟨h1, ⟨h1, by omega⟩, fin _ _ b _ _ rfl rfl s1 s2 hb _ (Int.emod_nonneg _ (by omega)) (Int.emod_lt_of_pos _ h1) _ rfl⟩
  by_cases ha : a = 0
  · rw [if_pos (decide_eq_true ha)]
    by_cases hb : b < ((gs.map D.int).length : Nat)
    · rw [if_pos (decide_eq_true hb)]
      have hb' : b.toNat < gs.length := by rw [List.length_map] at hb; omega
      refine ⟨_, atI_ints b1 hb', ?_⟩
      walk_at "dl"
      by_cases hg : 0 < gs[b.toNat]
      · rw [if_pos (decide_eq_true hg)]; exact mid _ _ (by omega)
      · rw [if_neg (by simpa using hg)]; exact last _ _ (by omega)
    · rw [if_neg (by simpa using hb)]
      by_cases hg : 0 < a
      · rw [if_pos (decide_eq_true hg)]; exact mid _ _ b1
      · rw [if_neg (by simpa using hg)]; exact last _ _ b1
  · rw [if_neg (by simpa using ha)]
    by_cases hg : 0 < a
    · rw [if_pos (decide_eq_true hg)]; exact mid _ _ b1
    · rw [if_neg (by simpa using hg)]; exact last _ _ b1
theorem rd__law_pair : Reads 2 N__law_pair S__law_pair ds__law_pair := by
  intro svs ret exc h
  obtain ⟨size, rfl, h1, h2, h⟩ := h
  refine ⟨rfl, ?_⟩
  simp only [ds__law_pair, ds__law_pair_s1, dSeq, dNext, dAsg, dgName, dStore, dIfS, dTest_eq, tsD_bl, dOp, dVar, dC, dRet, dRetN, dNever, dBrk, dCnt, dAnd, dOr, dNot, dAndV_eq, dOrV_eq, dNotV_eq, dIf, dNil, dCons, dConsS, dArgs, avD, dCB, dCBO, dInt1_int, dInt2_int, dIntOf_int, dIntOf_bl, dTup, dLst, dFrz, dDrop, dEq_int, dNe_int, dI0_int, dI2_int, dLt_int, dLe_int, dGt_int, dGe_int, dIsN_non, dNotN_non, dIsB_bl, dNotB_bl, isNon_sq, isNon_non, isNon_int, isNon_bl, isNon_str, isNon_tup, isNon_lst, dIx_sq, dIx_tup, dIx_lst, dIx_fl, dIxO, ixO_m, dSetI, dMet, mApp, mPop, mPopAt, mIns, mClear, dPart, dNoPart, dSl_eq, slD_sq, slD_tup, slD_lst, slD_fl, dSlL, dListOf_sq, dListOf_tup, dListOf_lst, dTupOf_sq, dTupOf_tup, dTupOf_lst, dLen_sq, dLen_tup, dLen_lst, dLen_fl, dAdd_int, dAdd_tup, dAdd_lst, dAdd_str, dAddO, dAsgO, dStill, dOpen, dHide, dIsi_ii, dIsi_ib, dIsi_tt, dIsi_ll, dIsi_sq, dIsiT_row, dIsi_bb, dIsi_bi, dIsi_bt, dIsi_it, dIsi_il, dIsi_is, dIsi_nb, dIsi_ni, dIsi_nt, dIsi_nl, dIsi_ti, dIsi_tb, dIsi_tl, dIsi_ts, dIsi_li, dIsi_lb, dIsi_lt, dIsi_ls, dIsi_si, dIsi_sb, dIsi_st, dIsi_ss, dEq_bl, dNe_bl, dInRange, dRgB, dCall_of, dCallO_of, AV.ok, AV.sv, slotsOf, setIo_un, setIo_d, setIo_ol, setIo_op, setIo_ok, setIo_ot, own_un, own_d, own_ol, own_op, own_ok, own_ot, io_un, io_d, io_ol, io_op, io_ok, io_ot, putBack, AV.isSl, dgSeq, dgCons, dgNil, seqOf_sq, seqOf_tup', seqOf_lst, seqOf_fl, dLook, dLookT, lookAll, SV.look, dAugI, dAugL, dRetO, dRetV, dChain_eq, dNeg, dIter_eq, itD_sq, itD_tup, itD_lst, itD_fl, dRng1, dRng2, dRng3, dEnum_eq, enD_one, dZip, start0, dYes, ioAll, wipeS, List.mem_cons, List.not_mem_nil,  dSumA, dMaxA, dMinA, dAllA, dAnyA, dOnA, intsL_ints, blsL_bls, atI_0, atI_1, atI_2, atI_3, ixN_lit0, ixN_lit1, ixN_lit2, ixN_lit3,
  List.getElem?_cons_zero, List.getElem?_cons_succ, List.set_cons_zero, List.set_cons_succ, List.map_cons, List.map_nil, List.length_cons, List.length_nil, List.getD_cons_zero, List.getD_cons_succ, List.mapIdx_cons, List.mapIdx_nil, List.findIdx?_cons, List.findIdx?_nil, List.all_cons, List.all_nil, List.append_nil, List.cons_append, List.nil_append, List.replicate_succ, List.replicate_zero, Option.map_some, Option.map_none, List.nodup_cons, List.nodup_nil, List.not_mem_nil, Bool.and_true, Bool.true_and, Bool.and_self, Bool.not_true, Bool.not_false, if_true, if_false, reduceIte, reduceCtorEq, Nat.reduceAdd, Nat.reduceSub, Nat.reduceBEq, Nat.reduceEqDiff, decide_true, decide_false, and_true, true_and, or_false, false_or, not_false_eq_true, beq_self_eq_true, Bool.false_eq_true, Option.getD_some, Option.getD_none, Option.some.injEq, exists_eq_left', ne_self_iff_false, Nat.zero_add, Nat.reduceLeDiff, Int.reduceNeg, and_self]
  refine ⟨size, rfl, h1, h2, fun a a1 a2 => ?_⟩
  walk_at "dl"
  refine ⟨size - a, rfl, by omega, by omega, fun r r1 r2 => ?_⟩
  walk_at "dl"
  exact .of _ (h a (a + r) a1 (by omega) (by omega)) rfl (.refl _)
theorem rd__law_beside : Reads 3 N__law_beside S__law_beside ds__law_beside := by
  intro svs ret exc h
  obtain ⟨size, p, rfl, h1, h2, p1, p2, p3, h⟩ := h
  refine ⟨rfl, ?_⟩
  simp only [ds__law_beside, dSeq, dNext, dAsg, dgName, dStore, dIfS, dTest_eq, tsD_bl, dOp, dVar, dC, dRet, dRetN, dNever, dBrk, dCnt, dAnd, dOr, dNot, dAndV_eq, dOrV_eq, dNotV_eq, dIf, dNil, dCons, dConsS, dArgs, avD, dCB, dCBO, dInt1_int, dInt2_int, dIntOf_int, dIntOf_bl, dTup, dLst, dFrz, dDrop, dEq_int, dNe_int, dI0_int, dI2_int, dLt_int, dLe_int, dGt_int, dGe_int, dIsN_non, dNotN_non, dIsB_bl, dNotB_bl, isNon_sq, isNon_non, isNon_int, isNon_bl, isNon_str, isNon_tup, isNon_lst, dIx_sq, dIx_tup, dIx_lst, dIx_fl, dIxO, ixO_m, dSetI, dMet, mApp, mPop, mPopAt, mIns, mClear, dPart, dNoPart, dSl_eq, slD_sq, slD_tup, slD_lst, slD_fl, dSlL, dListOf_sq, dListOf_tup, dListOf_lst, dTupOf_sq, dTupOf_tup, dTupOf_lst, dLen_sq, dLen_tup, dLen_lst, dLen_fl, dAdd_int, dAdd_tup, dAdd_lst, dAdd_str, dAddO, dAsgO, dStill, dOpen, dHide, dIsi_ii, dIsi_ib, dIsi_tt, dIsi_ll, dIsi_sq, dIsiT_row, dIsi_bb, dIsi_bi, dIsi_bt, dIsi_it, dIsi_il, dIsi_is, dIsi_nb, dIsi_ni, dIsi_nt, dIsi_nl, dIsi_ti, dIsi_tb, dIsi_tl, dIsi_ts, dIsi_li, dIsi_lb, dIsi_lt, dIsi_ls, dIsi_si, dIsi_sb, dIsi_st, dIsi_ss, dEq_bl, dNe_bl, dInRange, dRgB, dCall_of, dCallO_of, AV.ok, AV.sv, slotsOf, setIo_un, setIo_d, setIo_ol, setIo_op, setIo_ok, setIo_ot, own_un, own_d, own_ol, own_op, own_ok, own_ot, io_un, io_d, io_ol, io_op, io_ok, io_ot, putBack, AV.isSl, dgSeq, dgCons, dgNil, seqOf_sq, seqOf_tup', seqOf_lst, seqOf_fl, dLook, dLookT, lookAll, SV.look, dAugI, dAugL, dRetO, dRetV, dChain_eq, dNeg, dIter_eq, itD_sq, itD_tup, itD_lst, itD_fl, dRng1, dRng2, dRng3, dEnum_eq, enD_one, dZip, start0, dYes, ioAll, wipeS, List.mem_cons, List.not_mem_nil,  dSumA, dMaxA, dMinA, dAllA, dAnyA, dOnA, intsL_ints, blsL_bls, atI_0, atI_1, atI_2, atI_3, ixN_lit0, ixN_lit1, ixN_lit2, ixN_lit3,
  List.getElem?_cons_zero, List.getElem?_cons_succ, List.set_cons_zero, List.set_cons_succ, List.map_cons, List.map_nil, List.length_cons, List.length_nil, List.getD_cons_zero, List.getD_cons_succ, List.mapIdx_cons, List.mapIdx_nil, List.findIdx?_cons, List.findIdx?_nil, List.all_cons, List.all_nil, List.append_nil, List.cons_append, List.nil_append, List.replicate_succ, List.replicate_zero, Option.map_some, Option.map_none, List.nodup_cons, List.nodup_nil, List.not_mem_nil, Bool.and_true, Bool.true_and, Bool.and_self, Bool.not_true, Bool.not_false, if_true, if_false, reduceIte, reduceCtorEq, Nat.reduceAdd, Nat.reduceSub, Nat.reduceBEq, Nat.reduceEqDiff, decide_true, decide_false, and_true, true_and, or_false, false_or, not_false_eq_true, beq_self_eq_true, Bool.false_eq_true, Option.getD_some, Option.getD_none, Option.some.injEq, exists_eq_left', ne_self_iff_false, Nat.zero_add, Nat.reduceLeDiff, Int.reduceNeg, and_self]
  refine ⟨4, rfl, by decide, by decide, fun k k1 k2 => ?_⟩
  simp only [ds__law_beside_s1, pr, sq_t, dSeq, dNext, dAsg, dgName, dStore, dIfS, dTest_eq, tsD_bl, dOp, dVar, dC, dRet, dRetN, dNever, dBrk, dCnt, dAnd, dOr, dNot, dAndV_eq, dOrV_eq, dNotV_eq, dIf, dNil, dCons, dConsS, dArgs, avD, dCB, dCBO, dInt1_int, dInt2_int, dIntOf_int, dIntOf_bl, dTup, dLst, dFrz, dDrop, dEq_int, dNe_int, dI0_int, dI2_int, dLt_int, dLe_int, dGt_int, dGe_int, dIsN_non, dNotN_non, dIsB_bl, dNotB_bl, isNon_sq, isNon_non, isNon_int, isNon_bl, isNon_str, isNon_tup, isNon_lst, dIx_sq, dIx_tup, dIx_lst, dIx_fl, dIxO, ixO_m, dSetI, dMet, mApp, mPop, mPopAt, mIns, mClear, dPart, dNoPart, dSl_eq, slD_sq, slD_tup, slD_lst, slD_fl, dSlL, dListOf_sq, dListOf_tup, dListOf_lst, dTupOf_sq, dTupOf_tup, dTupOf_lst, dLen_sq, dLen_tup, dLen_lst, dLen_fl, dAdd_int, dAdd_tup, dAdd_lst, dAdd_str, dAddO, dAsgO, dStill, dOpen, dHide, dIsi_ii, dIsi_ib, dIsi_tt, dIsi_ll, dIsi_sq, dIsiT_row, dIsi_bb, dIsi_bi, dIsi_bt, dIsi_it, dIsi_il, dIsi_is, dIsi_nb, dIsi_ni, dIsi_nt, dIsi_nl, dIsi_ti, dIsi_tb, dIsi_tl, dIsi_ts, dIsi_li, dIsi_lb, dIsi_lt, dIsi_ls, dIsi_si, dIsi_sb, dIsi_st, dIsi_ss, dEq_bl, dNe_bl, dInRange, dRgB, dCall_of, dCallO_of, AV.ok, AV.sv, slotsOf, setIo_un, setIo_d, setIo_ol, setIo_op, setIo_ok, setIo_ot, own_un, own_d, own_ol, own_op, own_ok, own_ot, io_un, io_d, io_ol, io_op, io_ok, io_ot, putBack, AV.isSl, dgSeq, dgCons, dgNil, seqOf_sq, seqOf_tup', seqOf_lst, seqOf_fl, dLook, dLookT, lookAll, SV.look, dAugI, dAugL, dRetO, dRetV, dChain_eq, dNeg, dIter_eq, itD_sq, itD_tup, itD_lst, itD_fl, dRng1, dRng2, dRng3, dEnum_eq, enD_one, dZip, start0, dYes, ioAll, wipeS, List.mem_cons, List.not_mem_nil,  dSumA, dMaxA, dMinA, dAllA, dAnyA, dOnA, intsL_ints, blsL_bls, atI_0, atI_1, atI_2, atI_3, ixN_lit0, ixN_lit1, ixN_lit2, ixN_lit3,
  List.getElem?_cons_zero, List.getElem?_cons_succ, List.set_cons_zero, List.set_cons_succ, List.map_cons, List.map_nil, List.length_cons, List.length_nil, List.getD_cons_zero, List.getD_cons_succ, List.mapIdx_cons, List.mapIdx_nil, List.findIdx?_cons, List.findIdx?_nil, List.all_cons, List.all_nil, List.append_nil, List.cons_append, List.nil_append, List.replicate_succ, List.replicate_zero, Option.map_some, Option.map_none, List.nodup_cons, List.nodup_nil, List.not_mem_nil, Bool.and_true, Bool.true_and, Bool.and_self, Bool.not_true, Bool.not_false, if_true, if_false, reduceIte, reduceCtorEq, Nat.reduceAdd, Nat.reduceSub, Nat.reduceBEq, Nat.reduceEqDiff, decide_true, decide_false, and_true, true_and, or_false, false_or, not_false_eq_true, beq_self_eq_true, Bool.false_eq_true, Option.getD_some, Option.getD_none, Option.some.injEq, exists_eq_left', ne_self_iff_false, Nat.zero_add, Nat.reduceLeDiff, Int.reduceNeg, and_self]
  have last : ∀ u v w : SV, u.io = false → v.io = false → ds__law_beside_s4 { nx := fun ρ' => Ret 3 ret D.non ρ', rt := fun d ρ' => Ret 3 ret d ρ', ex := RetX 3 exc } [SV.op true SrcP, SV.d (.int size), SV.d (.tup [.int p.1, .int p.2]), u, v] := by
    intro u v w hu hv
    simp only [ds__law_beside_s4, pr, sq_t, dSeq, dNext, dAsg, dgName, dStore, dIfS, dTest_eq, tsD_bl, dOp, dVar, dC, dRet, dRetN, dNever, dBrk, dCnt, dAnd, dOr, dNot, dAndV_eq, dOrV_eq, dNotV_eq, dIf, dNil, dCons, dConsS, dArgs, avD, dCB, dCBO, dInt1_int, dInt2_int, dIntOf_int, dIntOf_bl, dTup, dLst, dFrz, dDrop, dEq_int, dNe_int, dI0_int, dI2_int, dLt_int, dLe_int, dGt_int, dGe_int, dIsN_non, dNotN_non, dIsB_bl, dNotB_bl, isNon_sq, isNon_non, isNon_int, isNon_bl, isNon_str, isNon_tup, isNon_lst, dIx_sq, dIx_tup, dIx_lst, dIx_fl, dIxO, ixO_m, dSetI, dMet, mApp, mPop, mPopAt, mIns, mClear, dPart, dNoPart, dSl_eq, slD_sq, slD_tup, slD_lst, slD_fl, dSlL, dListOf_sq, dListOf_tup, dListOf_lst, dTupOf_sq, dTupOf_tup, dTupOf_lst, dLen_sq, dLen_tup, dLen_lst, dLen_fl, dAdd_int, dAdd_tup, dAdd_lst, dAdd_str, dAddO, dAsgO, dStill, dOpen, dHide, dIsi_ii, dIsi_ib, dIsi_tt, dIsi_ll, dIsi_sq, dIsiT_row, dIsi_bb, dIsi_bi, dIsi_bt, dIsi_it, dIsi_il, dIsi_is, dIsi_nb, dIsi_ni, dIsi_nt, dIsi_nl, dIsi_ti, dIsi_tb, dIsi_tl, dIsi_ts, dIsi_li, dIsi_lb, dIsi_lt, dIsi_ls, dIsi_si, dIsi_sb, dIsi_st, dIsi_ss, dEq_bl, dNe_bl, dInRange, dRgB, dCall_of, dCallO_of, AV.ok, AV.sv, slotsOf, setIo_un, setIo_d, setIo_ol, setIo_op, setIo_ok, setIo_ot, own_un, own_d, own_ol, own_op, own_ok, own_ot, io_un, io_d, io_ol, io_op, io_ok, io_ot, putBack, AV.isSl, dgSeq, dgCons, dgNil, seqOf_sq, seqOf_tup', seqOf_lst, seqOf_fl, dLook, dLookT, lookAll, SV.look, dAugI, dAugL, dRetO, dRetV, dChain_eq, dNeg, dIter_eq, itD_sq, itD_tup, itD_lst, itD_fl, dRng1, dRng2, dRng3, dEnum_eq, enD_one, dZip, start0, dYes, ioAll, wipeS, List.mem_cons, List.not_mem_nil,  dSumA, dMaxA, dMinA, dAllA, dAnyA, dOnA, intsL_ints, blsL_bls, atI_0, atI_1, atI_2, atI_3, ixN_lit0, ixN_lit1, ixN_lit2, ixN_lit3,
  List.getElem?_cons_zero, List.getElem?_cons_succ, List.set_cons_zero, List.set_cons_succ, List.map_cons, List.map_nil, List.length_cons, List.length_nil, List.getD_cons_zero, List.getD_cons_succ, List.mapIdx_cons, List.mapIdx_nil, List.findIdx?_cons, List.findIdx?_nil, List.all_cons, List.all_nil, List.append_nil, List.cons_append, List.nil_append, List.replicate_succ, List.replicate_zero, Option.map_some, Option.map_none, List.nodup_cons, List.nodup_nil, List.not_mem_nil, Bool.and_true, Bool.true_and, Bool.and_self, Bool.not_true, Bool.not_false, if_true, if_false, reduceIte, reduceCtorEq, Nat.reduceAdd, Nat.reduceSub, Nat.reduceBEq, Nat.reduceEqDiff, decide_true, decide_false, and_true, true_and, or_false, false_or, not_false_eq_true, beq_self_eq_true, Bool.false_eq_true, Option.getD_some, Option.getD_none, Option.some.injEq, exists_eq_left', ne_self_iff_false, Nat.zero_add, Nat.reduceLeDiff, Int.reduceNeg, and_self]
    refine ⟨size, rfl, h1, h2, fun a b a1 a2 a3 => ?_⟩
    walk_at "dl"
    exact .of _ (h a b a1 a2 a3) rfl (.refl _)
  have s3 : ds__law_beside_s3 { nx := fun ρ' => Ret 3 ret D.non ρ', rt := fun d ρ' => Ret 3 ret d ρ', ex := RetX 3 exc } [SV.op true SrcP, SV.d (.int size), SV.d (.tup [.int p.1, .int p.2]), SV.d (.int k), SV.un] := by
    simp only [ds__law_beside_s3, pr, sq_t, dSeq, dNext, dAsg, dgName, dStore, dIfS, dTest_eq, tsD_bl, dOp, dVar, dC, dRet, dRetN, dNever, dBrk, dCnt, dAnd, dOr, dNot, dAndV_eq, dOrV_eq, dNotV_eq, dIf, dNil, dCons, dConsS, dArgs, avD, dCB, dCBO, dInt1_int, dInt2_int, dIntOf_int, dIntOf_bl, dTup, dLst, dFrz, dDrop, dEq_int, dNe_int, dI0_int, dI2_int, dLt_int, dLe_int, dGt_int, dGe_int, dIsN_non, dNotN_non, dIsB_bl, dNotB_bl, isNon_sq, isNon_non, isNon_int, isNon_bl, isNon_str, isNon_tup, isNon_lst, dIx_sq, dIx_tup, dIx_lst, dIx_fl, dIxO, ixO_m, dSetI, dMet, mApp, mPop, mPopAt, mIns, mClear, dPart, dNoPart, dSl_eq, slD_sq, slD_tup, slD_lst, slD_fl, dSlL, dListOf_sq, dListOf_tup, dListOf_lst, dTupOf_sq, dTupOf_tup, dTupOf_lst, dLen_sq, dLen_tup, dLen_lst, dLen_fl, dAdd_int, dAdd_tup, dAdd_lst, dAdd_str, dAddO, dAsgO, dStill, dOpen, dHide, dIsi_ii, dIsi_ib, dIsi_tt, dIsi_ll, dIsi_sq, dIsiT_row, dIsi_bb, dIsi_bi, dIsi_bt, dIsi_it, dIsi_il, dIsi_is, dIsi_nb, dIsi_ni, dIsi_nt, dIsi_nl, dIsi_ti, dIsi_tb, dIsi_tl, dIsi_ts, dIsi_li, dIsi_lb, dIsi_lt, dIsi_ls, dIsi_si, dIsi_sb, dIsi_st, dIsi_ss, dEq_bl, dNe_bl, dInRange, dRgB, dCall_of, dCallO_of, AV.ok, AV.sv, slotsOf, setIo_un, setIo_d, setIo_ol, setIo_op, setIo_ok, setIo_ot, own_un, own_d, own_ol, own_op, own_ok, own_ot, io_un, io_d, io_ol, io_op, io_ok, io_ot, putBack, AV.isSl, dgSeq, dgCons, dgNil, seqOf_sq, seqOf_tup', seqOf_lst, seqOf_fl, dLook, dLookT, lookAll, SV.look, dAugI, dAugL, dRetO, dRetV, dChain_eq, dNeg, dIter_eq, itD_sq, itD_tup, itD_lst, itD_fl, dRng1, dRng2, dRng3, dEnum_eq, enD_one, dZip, start0, dYes, ioAll, wipeS, List.mem_cons, List.not_mem_nil,  dSumA, dMaxA, dMinA, dAllA, dAnyA, dOnA, intsL_ints, blsL_bls, atI_0, atI_1, atI_2, atI_3, ixN_lit0, ixN_lit1, ixN_lit2, ixN_lit3,
  List.getElem?_cons_zero, List.getElem?_cons_succ, List.set_cons_zero, List.set_cons_succ, List.map_cons, List.map_nil, List.length_cons, List.length_nil, List.getD_cons_zero, List.getD_cons_succ, List.mapIdx_cons, List.mapIdx_nil, List.findIdx?_cons, List.findIdx?_nil, List.all_cons, List.all_nil, List.append_nil, List.cons_append, List.nil_append, List.replicate_succ, List.replicate_zero, Option.map_some, Option.map_none, List.nodup_cons, List.nodup_nil, List.not_mem_nil, Bool.and_true, Bool.true_and, Bool.and_self, Bool.not_true, Bool.not_false, if_true, if_false, reduceIte, reduceCtorEq, Nat.reduceAdd, Nat.reduceSub, Nat.reduceBEq, Nat.reduceEqDiff, decide_true, decide_false, and_true, true_and, or_false, false_or, not_false_eq_true, beq_self_eq_true, Bool.false_eq_true, Option.getD_some, Option.getD_none, Option.some.injEq, exists_eq_left', ne_self_iff_false, Nat.zero_add, Nat.reduceLeDiff, Int.reduceNeg, and_self]
    by_cases c : k = 2
    · rw [if_pos (decide_eq_true c)]
      refine ⟨3, rfl, by decide, by decide, fun r r1 r2 => ?_⟩
      walk_at "dl"
      refine ⟨3, rfl, by decide, by decide, fun r' r1' r2' => ?_⟩
      walk_at "dl"
      rw [min_if, max_if, max_if, min_if]
      exact .of _ (h _ _ (by omega) (by omega) (by omega)) rfl (.refl _)
    · rw [if_neg (by simpa using c)]
      exact last _ _ .un rfl rfl
  have s2 : ds__law_beside_s2 { nx := fun ρ' => Ret 3 ret D.non ρ', rt := fun d ρ' => Ret 3 ret d ρ', ex := RetX 3 exc } [SV.op true SrcP, SV.d (.int size), SV.d (.tup [.int p.1, .int p.2]), SV.d (.int k), SV.un] := by
    simp only [ds__law_beside_s2, pr, sq_t, dSeq, dNext, dAsg, dgName, dStore, dIfS, dTest_eq, tsD_bl, dOp, dVar, dC, dRet, dRetN, dNever, dBrk, dCnt, dAnd, dOr, dNot, dAndV_eq, dOrV_eq, dNotV_eq, dIf, dNil, dCons, dConsS, dArgs, avD, dCB, dCBO, dInt1_int, dInt2_int, dIntOf_int, dIntOf_bl, dTup, dLst, dFrz, dDrop, dEq_int, dNe_int, dI0_int, dI2_int, dLt_int, dLe_int, dGt_int, dGe_int, dIsN_non, dNotN_non, dIsB_bl, dNotB_bl, isNon_sq, isNon_non, isNon_int, isNon_bl, isNon_str, isNon_tup, isNon_lst, dIx_sq, dIx_tup, dIx_lst, dIx_fl, dIxO, ixO_m, dSetI, dMet, mApp, mPop, mPopAt, mIns, mClear, dPart, dNoPart, dSl_eq, slD_sq, slD_tup, slD_lst, slD_fl, dSlL, dListOf_sq, dListOf_tup, dListOf_lst, dTupOf_sq, dTupOf_tup, dTupOf_lst, dLen_sq, dLen_tup, dLen_lst, dLen_fl, dAdd_int, dAdd_tup, dAdd_lst, dAdd_str, dAddO, dAsgO, dStill, dOpen, dHide, dIsi_ii, dIsi_ib, dIsi_tt, dIsi_ll, dIsi_sq, dIsiT_row, dIsi_bb, dIsi_bi, dIsi_bt, dIsi_it, dIsi_il, dIsi_is, dIsi_nb, dIsi_ni, dIsi_nt, dIsi_nl, dIsi_ti, dIsi_tb, dIsi_tl, dIsi_ts, dIsi_li, dIsi_lb, dIsi_lt, dIsi_ls, dIsi_si, dIsi_sb, dIsi_st, dIsi_ss, dEq_bl, dNe_bl, dInRange, dRgB, dCall_of, dCallO_of, AV.ok, AV.sv, slotsOf, setIo_un, setIo_d, setIo_ol, setIo_op, setIo_ok, setIo_ot, own_un, own_d, own_ol, own_op, own_ok, own_ot, io_un, io_d, io_ol, io_op, io_ok, io_ot, putBack, AV.isSl, dgSeq, dgCons, dgNil, seqOf_sq, seqOf_tup', seqOf_lst, seqOf_fl, dLook, dLookT, lookAll, SV.look, dAugI, dAugL, dRetO, dRetV, dChain_eq, dNeg, dIter_eq, itD_sq, itD_tup, itD_lst, itD_fl, dRng1, dRng2, dRng3, dEnum_eq, enD_one, dZip, start0, dYes, ioAll, wipeS, List.mem_cons, List.not_mem_nil,  dSumA, dMaxA, dMinA, dAllA, dAnyA, dOnA, intsL_ints, blsL_bls, atI_0, atI_1, atI_2, atI_3, ixN_lit0, ixN_lit1, ixN_lit2, ixN_lit3,
  List.getElem?_cons_zero, List.getElem?_cons_succ, List.set_cons_zero, List.set_cons_succ, List.map_cons, List.map_nil, List.length_cons, List.length_nil, List.getD_cons_zero, List.getD_cons_succ, List.mapIdx_cons, List.mapIdx_nil, List.findIdx?_cons, List.findIdx?_nil, List.all_cons, List.all_nil, List.append_nil, List.cons_append, List.nil_append, List.replicate_succ, List.replicate_zero, Option.map_some, Option.map_none, List.nodup_cons, List.nodup_nil, List.not_mem_nil, Bool.and_true, Bool.true_and, Bool.and_self, Bool.not_true, Bool.not_false, if_true, if_false, reduceIte, reduceCtorEq, Nat.reduceAdd, Nat.reduceSub, Nat.reduceBEq, Nat.reduceEqDiff, decide_true, decide_false, and_true, true_and, or_false, false_or, not_false_eq_true, beq_self_eq_true, Bool.false_eq_true, Option.getD_some, Option.getD_none, Option.some.injEq, exists_eq_left', ne_self_iff_false, Nat.zero_add, Nat.reduceLeDiff, Int.reduceNeg, and_self]
    by_cases c : k = 1
    · rw [if_pos (decide_eq_true c)]
      by_cases c2 : 0 < p.1
      · rw [if_pos (decide_eq_true c2)]
        refine ⟨p.1, rfl, by omega, by omega, fun r r1 r2 => ?_⟩
        walk_at "dl"
        refine ⟨2, rfl, by decide, by decide, fun r' r1' r2' => ?_⟩
        walk_at "dl"
        exact .of _ (h _ _ (by omega) (by omega) (by omega)) rfl (.refl _)
      · rw [if_neg (by simpa using c2)]
        exact s3
    · rw [if_neg (by simpa using c)]
      exact s3
  by_cases c : k = 0
  · rw [if_pos (decide_eq_true c)]
    by_cases c2 : p.2 + 1 < size
    · rw [if_pos (decide_eq_true c2)]
      refine ⟨_, rfl, by omega, by omega, fun r r1 r2 => ?_⟩
      walk_at "dl"
      exact .of _ (h _ _ (by omega) (by omega) (by omega)) rfl (.refl _)
    · rw [if_neg (by simpa using c2)]
      exact s2
  · rw [if_neg (by simpa using c)]
    exact s2
theorem rd_is_from_to : Reads 3 N_is_from_to S_is_from_to ds_is_from_to := by
  intro svs ret exc h
  obtain ⟨x, l, m, rfl, hx, h⟩ := h
  refine ⟨rfl, ?_⟩
  simp only [ds_is_from_to, dSeq, dNext, dAsg, dgName, dStore, dIfS, dTest_eq, tsD_bl, dOp, dVar, dC, dRet, dRetN, dNever, dBrk, dCnt, dAnd, dOr, dNot, dAndV_eq, dOrV_eq, dNotV_eq, dIf, dNil, dCons, dConsS, dArgs, avD, dCB, dCBO, dInt1_int, dInt2_int, dIntOf_int, dIntOf_bl, dTup, dLst, dFrz, dDrop, dEq_int, dNe_int, dI0_int, dI2_int, dLt_int, dLe_int, dGt_int, dGe_int, dIsN_non, dNotN_non, dIsB_bl, dNotB_bl, isNon_sq, isNon_non, isNon_int, isNon_bl, isNon_str, isNon_tup, isNon_lst, dIx_sq, dIx_tup, dIx_lst, dIx_fl, dIxO, ixO_m, dSetI, dMet, mApp, mPop, mPopAt, mIns, mClear, dPart, dNoPart, dSl_eq, slD_sq, slD_tup, slD_lst, slD_fl, dSlL, dListOf_sq, dListOf_tup, dListOf_lst, dTupOf_sq, dTupOf_tup, dTupOf_lst, dLen_sq, dLen_tup, dLen_lst, dLen_fl, dAdd_int, dAdd_tup, dAdd_lst, dAdd_str, dAddO, dAsgO, dStill, dOpen, dHide, dIsi_ii, dIsi_ib, dIsi_tt, dIsi_ll, dIsi_sq, dIsiT_row, dIsi_bb, dIsi_bi, dIsi_bt, dIsi_it, dIsi_il, dIsi_is, dIsi_nb, dIsi_ni, dIsi_nt, dIsi_nl, dIsi_ti, dIsi_tb, dIsi_tl, dIsi_ts, dIsi_li, dIsi_lb, dIsi_lt, dIsi_ls, dIsi_si, dIsi_sb, dIsi_st, dIsi_ss, dEq_bl, dNe_bl, dInRange, dRgB, dCall_of, dCallO_of, AV.ok, AV.sv, slotsOf, setIo_un, setIo_d, setIo_ol, setIo_op, setIo_ok, setIo_ot, own_un, own_d, own_ol, own_op, own_ok, own_ot, io_un, io_d, io_ol, io_op, io_ok, io_ot, putBack, AV.isSl, dgSeq, dgCons, dgNil, seqOf_sq, seqOf_tup', seqOf_lst, seqOf_fl, dLook, dLookT, lookAll, SV.look, dAugI, dAugL, dRetO, dRetV, dChain_eq, dNeg, dIter_eq, itD_sq, itD_tup, itD_lst, itD_fl, dRng1, dRng2, dRng3, dEnum_eq, enD_one, dZip, start0, dYes, ioAll, wipeS, List.mem_cons, List.not_mem_nil,  dSumA, dMaxA, dMinA, dAllA, dAnyA, dOnA, intsL_ints, blsL_bls, atI_0, atI_1, atI_2, atI_3, ixN_lit0, ixN_lit1, ixN_lit2, ixN_lit3,
  List.getElem?_cons_zero, List.getElem?_cons_succ, List.set_cons_zero, List.set_cons_succ, List.map_cons, List.map_nil, List.length_cons, List.length_nil, List.getD_cons_zero, List.getD_cons_succ, List.mapIdx_cons, List.mapIdx_nil, List.findIdx?_cons, List.findIdx?_nil, List.all_cons, List.all_nil, List.append_nil, List.cons_append, List.nil_append, List.replicate_succ, List.replicate_zero, Option.map_some, Option.map_none, List.nodup_cons, List.nodup_nil, List.not_mem_nil, Bool.and_true, Bool.true_and, Bool.and_self, Bool.not_true, Bool.not_false, if_true, if_false, reduceIte, reduceCtorEq, Nat.reduceAdd, Nat.reduceSub, Nat.reduceBEq, Nat.reduceEqDiff, decide_true, decide_false, and_true, true_and, or_false, false_or, not_false_eq_true, beq_self_eq_true, Bool.false_eq_true, Option.getD_some, Option.getD_none, Option.some.injEq, exists_eq_left', ne_self_iff_false, Nat.zero_add, Nat.reduceLeDiff, Int.reduceNeg, and_self]
  cases x with
  | int v =>
    walk_at "dl"
    by_cases h1 : l ≤ v
    · rw [if_pos (decide_eq_true h1)]; rw [inFT, decide_eq_true h1, Bool.true_and] at h; exact Ret.same h rfl
    · rw [if_neg (by simpa using h1)]; rw [inFT, decide_eq_false h1, Bool.false_and] at h; exact Ret.same h rfl
  | bl b =>
    refine ⟨by decide, ?_⟩
    show tsD (.bl true) _
    walk_at "dl"
    exact Ret.same h rfl
  | non => exact ⟨by decide, Ret.same h rfl⟩
  | str _ => exact ⟨by decide, Ret.same h rfl⟩
  | tup _ => exact ⟨by decide, Ret.same h rfl⟩
  | lst _ => exact ⟨by decide, Ret.same h rfl⟩
  | fl _ => exact ⟨by decide, Ret.same h rfl⟩
  | _ => exact absurd hx Bool.false_ne_true
theorem rd_check_number : Reads 3 N_check_number S_check_number ds_check_number := by
  intro svs ret exc h
  obtain ⟨x, l, m, rfl, hx, h1, h2⟩ := h
  refine ⟨rfl, ?_⟩
  simp only [ds_check_number, dSeq, dNext, dAsg, dgName, dStore, dIfS, dTest_eq, tsD_bl, dOp, dVar, dC, dRet, dRetN, dNever, dBrk, dCnt, dAnd, dOr, dNot, dAndV_eq, dOrV_eq, dNotV_eq, dIf, dNil, dCons, dConsS, dArgs, avD, dCB, dCBO, dInt1_int, dInt2_int, dIntOf_int, dIntOf_bl, dTup, dLst, dFrz, dDrop, dEq_int, dNe_int, dI0_int, dI2_int, dLt_int, dLe_int, dGt_int, dGe_int, dIsN_non, dNotN_non, dIsB_bl, dNotB_bl, isNon_sq, isNon_non, isNon_int, isNon_bl, isNon_str, isNon_tup, isNon_lst, dIx_sq, dIx_tup, dIx_lst, dIx_fl, dIxO, ixO_m, dSetI, dMet, mApp, mPop, mPopAt, mIns, mClear, dPart, dNoPart, dSl_eq, slD_sq, slD_tup, slD_lst, slD_fl, dSlL, dListOf_sq, dListOf_tup, dListOf_lst, dTupOf_sq, dTupOf_tup, dTupOf_lst, dLen_sq, dLen_tup, dLen_lst, dLen_fl, dAdd_int, dAdd_tup, dAdd_lst, dAdd_str, dAddO, dAsgO, dStill, dOpen, dHide, dIsi_ii, dIsi_ib, dIsi_tt, dIsi_ll, dIsi_sq, dIsiT_row, dIsi_bb, dIsi_bi, dIsi_bt, dIsi_it, dIsi_il, dIsi_is, dIsi_nb, dIsi_ni, dIsi_nt, dIsi_nl, dIsi_ti, dIsi_tb, dIsi_tl, dIsi_ts, dIsi_li, dIsi_lb, dIsi_lt, dIsi_ls, dIsi_si, dIsi_sb, dIsi_st, dIsi_ss, dEq_bl, dNe_bl, dInRange, dRgB, dCall_of, dCallO_of, AV.ok, AV.sv, slotsOf, setIo_un, setIo_d, setIo_ol, setIo_op, setIo_ok, setIo_ot, own_un, own_d, own_ol, own_op, own_ok, own_ot, io_un, io_d, io_ol, io_op, io_ok, io_ot, putBack, AV.isSl, dgSeq, dgCons, dgNil, seqOf_sq, seqOf_tup', seqOf_lst, seqOf_fl, dLook, dLookT, lookAll, SV.look, dAugI, dAugL, dRetO, dRetV, dChain_eq, dNeg, dIter_eq, itD_sq, itD_tup, itD_lst, itD_fl, dRng1, dRng2, dRng3, dEnum_eq, enD_one, dZip, start0, dYes, ioAll, wipeS, List.mem_cons, List.not_mem_nil,  dSumA, dMaxA, dMinA, dAllA, dAnyA, dOnA, intsL_ints, blsL_bls, atI_0, atI_1, atI_2, atI_3, ixN_lit0, ixN_lit1, ixN_lit2, ixN_lit3,
  List.getElem?_cons_zero, List.getElem?_cons_succ, List.set_cons_zero, List.set_cons_succ, List.map_cons, List.map_nil, List.length_cons, List.length_nil, List.getD_cons_zero, List.getD_cons_succ, List.mapIdx_cons, List.mapIdx_nil, List.findIdx?_cons, List.findIdx?_nil, List.all_cons, List.all_nil, List.append_nil, List.cons_append, List.nil_append, List.replicate_succ, List.replicate_zero, Option.map_some, Option.map_none, List.nodup_cons, List.nodup_nil, List.not_mem_nil, Bool.and_true, Bool.true_and, Bool.and_self, Bool.not_true, Bool.not_false, if_true, if_false, reduceIte, reduceCtorEq, Nat.reduceAdd, Nat.reduceSub, Nat.reduceBEq, Nat.reduceEqDiff, decide_true, decide_false, and_true, true_and, or_false, false_or, not_false_eq_true, beq_self_eq_true, Bool.false_eq_true, Option.getD_some, Option.getD_none, Option.some.injEq, exists_eq_left', ne_self_iff_false, Nat.zero_add, Nat.reduceLeDiff, Int.reduceNeg, and_self]
  refine ⟨x, l, m, rfl, hx, ?_⟩
  cases q : inFT x l m with
  | true => walk_at "dl"; exact Ret.same (h1 q) rfl
  | false => simp only [dRaise, dSeq, dNext, dAsg, dgName, dStore, dIfS, dTest_eq, tsD_bl, dOp, dVar, dC, dRet, dRetN, dNever, dBrk, dCnt, dAnd, dOr, dNot, dAndV_eq, dOrV_eq, dNotV_eq, dIf, dNil, dCons, dConsS, dArgs, avD, dCB, dCBO, dInt1_int, dInt2_int, dIntOf_int, dIntOf_bl, dTup, dLst, dFrz, dDrop, dEq_int, dNe_int, dI0_int, dI2_int, dLt_int, dLe_int, dGt_int, dGe_int, dIsN_non, dNotN_non, dIsB_bl, dNotB_bl, isNon_sq, isNon_non, isNon_int, isNon_bl, isNon_str, isNon_tup, isNon_lst, dIx_sq, dIx_tup, dIx_lst, dIx_fl, dIxO, ixO_m, dSetI, dMet, mApp, mPop, mPopAt, mIns, mClear, dPart, dNoPart, dSl_eq, slD_sq, slD_tup, slD_lst, slD_fl, dSlL, dListOf_sq, dListOf_tup, dListOf_lst, dTupOf_sq, dTupOf_tup, dTupOf_lst, dLen_sq, dLen_tup, dLen_lst, dLen_fl, dAdd_int, dAdd_tup, dAdd_lst, dAdd_str, dAddO, dAsgO, dStill, dOpen, dHide, dIsi_ii, dIsi_ib, dIsi_tt, dIsi_ll, dIsi_sq, dIsiT_row, dIsi_bb, dIsi_bi, dIsi_bt, dIsi_it, dIsi_il, dIsi_is, dIsi_nb, dIsi_ni, dIsi_nt, dIsi_nl, dIsi_ti, dIsi_tb, dIsi_tl, dIsi_ts, dIsi_li, dIsi_lb, dIsi_lt, dIsi_ls, dIsi_si, dIsi_sb, dIsi_st, dIsi_ss, dEq_bl, dNe_bl, dInRange, dRgB, dCall_of, dCallO_of, AV.ok, AV.sv, slotsOf, setIo_un, setIo_d, setIo_ol, setIo_op, setIo_ok, setIo_ot, own_un, own_d, own_ol, own_op, own_ok, own_ot, io_un, io_d, io_ol, io_op, io_ok, io_ot, putBack, AV.isSl, dgSeq, dgCons, dgNil, seqOf_sq, seqOf_tup', seqOf_lst, seqOf_fl, dLook, dLookT, lookAll, SV.look, dAugI, dAugL, dRetO, dRetV, dChain_eq, dNeg, dIter_eq, itD_sq, itD_tup, itD_lst, itD_fl, dRng1, dRng2, dRng3, dEnum_eq, enD_one, dZip, start0, dYes, ioAll, wipeS, List.mem_cons, List.not_mem_nil,  dSumA, dMaxA, dMinA, dAllA, dAnyA, dOnA, intsL_ints, blsL_bls, atI_0, atI_1, atI_2, atI_3, ixN_lit0, ixN_lit1, ixN_lit2, ixN_lit3,
  List.getElem?_cons_zero, List.getElem?_cons_succ, List.set_cons_zero, List.set_cons_succ, List.map_cons, List.map_nil, List.length_cons, List.length_nil, List.getD_cons_zero, List.getD_cons_succ, List.mapIdx_cons, List.mapIdx_nil, List.findIdx?_cons, List.findIdx?_nil, List.all_cons, List.all_nil, List.append_nil, List.cons_append, List.nil_append, List.replicate_succ, List.replicate_zero, Option.map_some, Option.map_none, List.nodup_cons, List.nodup_nil, List.not_mem_nil, Bool.and_true, Bool.true_and, Bool.and_self, Bool.not_true, Bool.not_false, if_true, if_false, reduceIte, reduceCtorEq, Nat.reduceAdd, Nat.reduceSub, Nat.reduceBEq, Nat.reduceEqDiff, decide_true, decide_false, and_true, true_and, or_false, false_or, not_false_eq_true, beq_self_eq_true, Bool.false_eq_true, Option.getD_some, Option.getD_none, Option.some.injEq, exists_eq_left', ne_self_iff_false, Nat.zero_add, Nat.reduceLeDiff, Int.reduceNeg, and_self]; exact ⟨_, rfl, .refl _, h2 q⟩
theorem rd_spans_of : Reads 1 N_spans_of S_spans_of ds_spans_of := by
  intro svs ret exc h
  obtain ⟨n, rfl, hn, h⟩ := h
  refine ⟨rfl, ?_⟩
  simp only [ds_spans_of, dSeq, dNext, dAsg, dgName, dStore, dIfS, dTest_eq, tsD_bl, dOp, dVar, dC, dRet, dRetN, dNever, dBrk, dCnt, dAnd, dOr, dNot, dAndV_eq, dOrV_eq, dNotV_eq, dIf, dNil, dCons, dConsS, dArgs, avD, dCB, dCBO, dInt1_int, dInt2_int, dIntOf_int, dIntOf_bl, dTup, dLst, dFrz, dDrop, dEq_int, dNe_int, dI0_int, dI2_int, dLt_int, dLe_int, dGt_int, dGe_int, dIsN_non, dNotN_non, dIsB_bl, dNotB_bl, isNon_sq, isNon_non, isNon_int, isNon_bl, isNon_str, isNon_tup, isNon_lst, dIx_sq, dIx_tup, dIx_lst, dIx_fl, dIxO, ixO_m, dSetI, dMet, mApp, mPop, mPopAt, mIns, mClear, dPart, dNoPart, dSl_eq, slD_sq, slD_tup, slD_lst, slD_fl, dSlL, dListOf_sq, dListOf_tup, dListOf_lst, dTupOf_sq, dTupOf_tup, dTupOf_lst, dLen_sq, dLen_tup, dLen_lst, dLen_fl, dAdd_int, dAdd_tup, dAdd_lst, dAdd_str, dAddO, dAsgO, dStill, dOpen, dHide, dIsi_ii, dIsi_ib, dIsi_tt, dIsi_ll, dIsi_sq, dIsiT_row, dIsi_bb, dIsi_bi, dIsi_bt, dIsi_it, dIsi_il, dIsi_is, dIsi_nb, dIsi_ni, dIsi_nt, dIsi_nl, dIsi_ti, dIsi_tb, dIsi_tl, dIsi_ts, dIsi_li, dIsi_lb, dIsi_lt, dIsi_ls, dIsi_si, dIsi_sb, dIsi_st, dIsi_ss, dEq_bl, dNe_bl, dInRange, dRgB, dCall_of, dCallO_of, AV.ok, AV.sv, slotsOf, setIo_un, setIo_d, setIo_ol, setIo_op, setIo_ok, setIo_ot, own_un, own_d, own_ol, own_op, own_ok, own_ot, io_un, io_d, io_ol, io_op, io_ok, io_ot, putBack, AV.isSl, dgSeq, dgCons, dgNil, seqOf_sq, seqOf_tup', seqOf_lst, seqOf_fl, dLook, dLookT, lookAll, SV.look, dAugI, dAugL, dRetO, dRetV, dChain_eq, dNeg, dIter_eq, itD_sq, itD_tup, itD_lst, itD_fl, dRng1, dRng2, dRng3, dEnum_eq, enD_one, dZip, start0, dYes, ioAll, wipeS, List.mem_cons, List.not_mem_nil,  dSumA, dMaxA, dMinA, dAllA, dAnyA, dOnA, intsL_ints, blsL_bls, atI_0, atI_1, atI_2, atI_3, ixN_lit0, ixN_lit1, ixN_lit2, ixN_lit3,
  List.getElem?_cons_zero, List.getElem?_cons_succ, List.set_cons_zero, List.set_cons_succ, List.map_cons, List.map_nil, List.length_cons, List.length_nil, List.getD_cons_zero, List.getD_cons_succ, List.mapIdx_cons, List.mapIdx_nil, List.findIdx?_cons, List.findIdx?_nil, List.all_cons, List.all_nil, List.append_nil, List.cons_append, List.nil_append, List.replicate_succ, List.replicate_zero, Option.map_some, Option.map_none, List.nodup_cons, List.nodup_nil, List.not_mem_nil, Bool.and_true, Bool.true_and, Bool.and_self, Bool.not_true, Bool.not_false, if_true, if_false, reduceIte, reduceCtorEq, Nat.reduceAdd, Nat.reduceSub, Nat.reduceBEq, Nat.reduceEqDiff, decide_true, decide_false, and_true, true_and, or_false, false_or, not_false_eq_true, beq_self_eq_true, Bool.false_eq_true, Option.getD_some, Option.getD_none, Option.some.injEq, exists_eq_left', ne_self_iff_false, Nat.zero_add, Nat.reduceLeDiff, Int.reduceNeg, and_self]
  refine lc2_of (DL.intsFrom 0 n) _ (fun Φ Ξ h => by (try walk_at "dl"); exact ⟨by omega, by simpa using h⟩) rfl (by rw [ints_len]; omega) (fun i acc => acc = ((List.range i).flatMap (spanRow n)).map (pr true)) rfl (fun i x acc hx ha => ?_) (fun acc ha => ?_)
  · obtain ⟨hi, rfl⟩ := ints_at hx
    subst ha
    walk_at "dl"
    refine ⟨by omega, rfl, ?_⟩
    rw [show ((n : Int) - (0 + (i : Int))).toNat = n - i by omega]
    refine ⟨same_of rfl rfl, by rw [ints_len]; omega, fun j acc1 => acc1 = ((List.range i).flatMap (spanRow n)).map (pr true) ++ ((spanRow n i).take j).map (pr true), by simp, fun j z acc1 hz ha1 => ?_, fun acc1 ha1 => ?_⟩
    · obtain ⟨hj, rfl⟩ := ints_at hz
      subst ha1
      walk_at "dl"
      refine ⟨same_of rfl rfl, ?_⟩
      have hr : (spanRow n i)[j]? = some ((i : Int), ((i + j : Nat) : Int)) := by
        unfold spanRow; rw [List.getElem?_map, List.getElem?_range hj]; rfl
      rw [List.take_succ, hr]
      simp [pr, sq_t]
    · subst ha1
      rw [ints_len]
      have hl : (spanRow n i).length = n - i := by unfold spanRow; rw [List.length_map, List.length_range]
      rw [List.take_of_length_le (by omega), List.range_succ, List.flatMap_append, List.map_append]
      simp
  · subst ha
    rw [ints_len]
    exact Ret.same h rfl
theorem rd_all_spans : Reads 1 N_all_spans S_all_spans ds_all_spans := by
  intro svs ret exc h
  obtain ⟨x, rfl, hx, h1, h2⟩ := h
  refine ⟨rfl, ?_⟩
  simp only [ds_all_spans, ds_all_spans_s1, dSeq, dNext, dAsg, dgName, dStore, dIfS, dTest_eq, tsD_bl, dOp, dVar, dC, dRet, dRetN, dNever, dBrk, dCnt, dAnd, dOr, dNot, dAndV_eq, dOrV_eq, dNotV_eq, dIf, dNil, dCons, dConsS, dArgs, avD, dCB, dCBO, dInt1_int, dInt2_int, dIntOf_int, dIntOf_bl, dTup, dLst, dFrz, dDrop, dEq_int, dNe_int, dI0_int, dI2_int, dLt_int, dLe_int, dGt_int, dGe_int, dIsN_non, dNotN_non, dIsB_bl, dNotB_bl, isNon_sq, isNon_non, isNon_int, isNon_bl, isNon_str, isNon_tup, isNon_lst, dIx_sq, dIx_tup, dIx_lst, dIx_fl, dIxO, ixO_m, dSetI, dMet, mApp, mPop, mPopAt, mIns, mClear, dPart, dNoPart, dSl_eq, slD_sq, slD_tup, slD_lst, slD_fl, dSlL, dListOf_sq, dListOf_tup, dListOf_lst, dTupOf_sq, dTupOf_tup, dTupOf_lst, dLen_sq, dLen_tup, dLen_lst, dLen_fl, dAdd_int, dAdd_tup, dAdd_lst, dAdd_str, dAddO, dAsgO, dStill, dOpen, dHide, dIsi_ii, dIsi_ib, dIsi_tt, dIsi_ll, dIsi_sq, dIsiT_row, dIsi_bb, dIsi_bi, dIsi_bt, dIsi_it, dIsi_il, dIsi_is, dIsi_nb, dIsi_ni, dIsi_nt, dIsi_nl, dIsi_ti, dIsi_tb, dIsi_tl, dIsi_ts, dIsi_li, dIsi_lb, dIsi_lt, dIsi_ls, dIsi_si, dIsi_sb, dIsi_st, dIsi_ss, dEq_bl, dNe_bl, dInRange, dRgB, dCall_of, dCallO_of, AV.ok, AV.sv, slotsOf, setIo_un, setIo_d, setIo_ol, setIo_op, setIo_ok, setIo_ot, own_un, own_d, own_ol, own_op, own_ok, own_ot, io_un, io_d, io_ol, io_op, io_ok, io_ot, putBack, AV.isSl, dgSeq, dgCons, dgNil, seqOf_sq, seqOf_tup', seqOf_lst, seqOf_fl, dLook, dLookT, lookAll, SV.look, dAugI, dAugL, dRetO, dRetV, dChain_eq, dNeg, dIter_eq, itD_sq, itD_tup, itD_lst, itD_fl, dRng1, dRng2, dRng3, dEnum_eq, enD_one, dZip, start0, dYes, ioAll, wipeS, List.mem_cons, List.not_mem_nil,  dSumA, dMaxA, dMinA, dAllA, dAnyA, dOnA, intsL_ints, blsL_bls, atI_0, atI_1, atI_2, atI_3, ixN_lit0, ixN_lit1, ixN_lit2, ixN_lit3,
  List.getElem?_cons_zero, List.getElem?_cons_succ, List.set_cons_zero, List.set_cons_succ, List.map_cons, List.map_nil, List.length_cons, List.length_nil, List.getD_cons_zero, List.getD_cons_succ, List.mapIdx_cons, List.mapIdx_nil, List.findIdx?_cons, List.findIdx?_nil, List.all_cons, List.all_nil, List.append_nil, List.cons_append, List.nil_append, List.replicate_succ, List.replicate_zero, Option.map_some, Option.map_none, List.nodup_cons, List.nodup_nil, List.not_mem_nil, Bool.and_true, Bool.true_and, Bool.and_self, Bool.not_true, Bool.not_false, if_true, if_false, reduceIte, reduceCtorEq, Nat.reduceAdd, Nat.reduceSub, Nat.reduceBEq, Nat.reduceEqDiff, decide_true, decide_false, and_true, true_and, or_false, false_or, not_false_eq_true, beq_self_eq_true, Bool.false_eq_true, Option.getD_some, Option.getD_none, Option.some.injEq, exists_eq_left', ne_self_iff_false, Nat.zero_add, Nat.reduceLeDiff, Int.reduceNeg, and_self]
  refine ⟨x, 1, 24, rfl, hx, fun q => ?_, fun q => ?_⟩
  · walk_at "dl"
    obtain ⟨n, rfl, n1, n2⟩ := inFT_int q
    refine ⟨n.toNat, by rw [Int.toNat_of_nonneg (by omega)], by omega, ?_⟩
    walk_at "dl"
    exact Ret.same (h1 n.toNat (by rw [Int.toNat_of_nonneg (by omega)]) (by omega) (by omega)) rfl
  · exact ⟨_, rfl, .refl _, h2 q⟩
theorem rd__law_refused : Reads 1 N__law_refused S__law_refused ds__law_refused := by
  intro svs ret exc h
  obtain ⟨x, rfl, hx, hk, h⟩ := h
  refine ⟨rfl, ?_⟩
  simp only [ds__law_refused, dTryAs, dSeq, dNext, dAsg, dgName, dStore, dIfS, dTest_eq, tsD_bl, dOp, dVar, dC, dRet, dRetN, dNever, dBrk, dCnt, dAnd, dOr, dNot, dAndV_eq, dOrV_eq, dNotV_eq, dIf, dNil, dCons, dConsS, dArgs, avD, dCB, dCBO, dInt1_int, dInt2_int, dIntOf_int, dIntOf_bl, dTup, dLst, dFrz, dDrop, dEq_int, dNe_int, dI0_int, dI2_int, dLt_int, dLe_int, dGt_int, dGe_int, dIsN_non, dNotN_non, dIsB_bl, dNotB_bl, isNon_sq, isNon_non, isNon_int, isNon_bl, isNon_str, isNon_tup, isNon_lst, dIx_sq, dIx_tup, dIx_lst, dIx_fl, dIxO, ixO_m, dSetI, dMet, mApp, mPop, mPopAt, mIns, mClear, dPart, dNoPart, dSl_eq, slD_sq, slD_tup, slD_lst, slD_fl, dSlL, dListOf_sq, dListOf_tup, dListOf_lst, dTupOf_sq, dTupOf_tup, dTupOf_lst, dLen_sq, dLen_tup, dLen_lst, dLen_fl, dAdd_int, dAdd_tup, dAdd_lst, dAdd_str, dAddO, dAsgO, dStill, dOpen, dHide, dIsi_ii, dIsi_ib, dIsi_tt, dIsi_ll, dIsi_sq, dIsiT_row, dIsi_bb, dIsi_bi, dIsi_bt, dIsi_it, dIsi_il, dIsi_is, dIsi_nb, dIsi_ni, dIsi_nt, dIsi_nl, dIsi_ti, dIsi_tb, dIsi_tl, dIsi_ts, dIsi_li, dIsi_lb, dIsi_lt, dIsi_ls, dIsi_si, dIsi_sb, dIsi_st, dIsi_ss, dEq_bl, dNe_bl, dInRange, dRgB, dCall_of, dCallO_of, AV.ok, AV.sv, slotsOf, setIo_un, setIo_d, setIo_ol, setIo_op, setIo_ok, setIo_ot, own_un, own_d, own_ol, own_op, own_ok, own_ot, io_un, io_d, io_ol, io_op, io_ok, io_ot, putBack, AV.isSl, dgSeq, dgCons, dgNil, seqOf_sq, seqOf_tup', seqOf_lst, seqOf_fl, dLook, dLookT, lookAll, SV.look, dAugI, dAugL, dRetO, dRetV, dChain_eq, dNeg, dIter_eq, itD_sq, itD_tup, itD_lst, itD_fl, dRng1, dRng2, dRng3, dEnum_eq, enD_one, dZip, start0, dYes, ioAll, wipeS, List.mem_cons, List.not_mem_nil,  dSumA, dMaxA, dMinA, dAllA, dAnyA, dOnA, intsL_ints, blsL_bls, atI_0, atI_1, atI_2, atI_3, ixN_lit0, ixN_lit1, ixN_lit2, ixN_lit3,
  List.getElem?_cons_zero, List.getElem?_cons_succ, List.set_cons_zero, List.set_cons_succ, List.map_cons, List.map_nil, List.length_cons, List.length_nil, List.getD_cons_zero, List.getD_cons_succ, List.mapIdx_cons, List.mapIdx_nil, List.findIdx?_cons, List.findIdx?_nil, List.all_cons, List.all_nil, List.append_nil, List.cons_append, List.nil_append, List.replicate_succ, List.replicate_zero, Option.map_some, Option.map_none, List.nodup_cons, List.nodup_nil, List.not_mem_nil, Bool.and_true, Bool.true_and, Bool.and_self, Bool.not_true, Bool.not_false, if_true, if_false, reduceIte, reduceCtorEq, Nat.reduceAdd, Nat.reduceSub, Nat.reduceBEq, Nat.reduceEqDiff, decide_true, decide_false, and_true, true_and, or_false, false_or, not_false_eq_true, beq_self_eq_true, Bool.false_eq_true, Option.getD_some, Option.getD_none, Option.some.injEq, exists_eq_left', ne_self_iff_false, Nat.zero_add, Nat.reduceLeDiff, Int.reduceNeg, and_self]
  have ht : x.tyN.isSome = true := by
    obtain ⟨v, rfl⟩ | z := hk
    · rfl
    · exact z.1
  refine ⟨x, rfl, ht, fun n e n1 n2 => ?_, fun _ => ⟨by decide, ?_⟩⟩
  · subst e
    exact absurd hx (by unfold inFT; simp; omega)
  · rw [if_pos (by decide)]
    intro a cls dx
    have m1 : ("InvalidNumber" : PySem.Str) ∈ errs := by decide
    have m2 : ("number" : PySem.Str) = attrOf "InvalidNumber" := by decide
    have m3 : subN "InvalidNumber" "SlotError" = true := by decide
    have m4 : subN "InvalidNumber" "ValueError" = true := by decide
    obtain ⟨v, rfl⟩ | ⟨_, z1, z2, z3, z4, z5, z6⟩ := hk
    · simp only [dIsE, dXf, m1, m2, m3, m4, dSeq, dNext, dAsg, dgName, dStore, dIfS, dTest_eq, tsD_bl, dOp, dVar, dC, dRet, dRetN, dNever, dBrk, dCnt, dAnd, dOr, dNot, dAndV_eq, dOrV_eq, dNotV_eq, dIf, dNil, dCons, dConsS, dArgs, avD, dCB, dCBO, dInt1_int, dInt2_int, dIntOf_int, dIntOf_bl, dTup, dLst, dFrz, dDrop, dEq_int, dNe_int, dI0_int, dI2_int, dLt_int, dLe_int, dGt_int, dGe_int, dIsN_non, dNotN_non, dIsB_bl, dNotB_bl, isNon_sq, isNon_non, isNon_int, isNon_bl, isNon_str, isNon_tup, isNon_lst, dIx_sq, dIx_tup, dIx_lst, dIx_fl, dIxO, ixO_m, dSetI, dMet, mApp, mPop, mPopAt, mIns, mClear, dPart, dNoPart, dSl_eq, slD_sq, slD_tup, slD_lst, slD_fl, dSlL, dListOf_sq, dListOf_tup, dListOf_lst, dTupOf_sq, dTupOf_tup, dTupOf_lst, dLen_sq, dLen_tup, dLen_lst, dLen_fl, dAdd_int, dAdd_tup, dAdd_lst, dAdd_str, dAddO, dAsgO, dStill, dOpen, dHide, dIsi_ii, dIsi_ib, dIsi_tt, dIsi_ll, dIsi_sq, dIsiT_row, dIsi_bb, dIsi_bi, dIsi_bt, dIsi_it, dIsi_il, dIsi_is, dIsi_nb, dIsi_ni, dIsi_nt, dIsi_nl, dIsi_ti, dIsi_tb, dIsi_tl, dIsi_ts, dIsi_li, dIsi_lb, dIsi_lt, dIsi_ls, dIsi_si, dIsi_sb, dIsi_st, dIsi_ss, dEq_bl, dNe_bl, dInRange, dRgB, dCall_of, dCallO_of, AV.ok, AV.sv, slotsOf, setIo_un, setIo_d, setIo_ol, setIo_op, setIo_ok, setIo_ot, own_un, own_d, own_ol, own_op, own_ok, own_ot, io_un, io_d, io_ol, io_op, io_ok, io_ot, putBack, AV.isSl, dgSeq, dgCons, dgNil, seqOf_sq, seqOf_tup', seqOf_lst, seqOf_fl, dLook, dLookT, lookAll, SV.look, dAugI, dAugL, dRetO, dRetV, dChain_eq, dNeg, dIter_eq, itD_sq, itD_tup, itD_lst, itD_fl, dRng1, dRng2, dRng3, dEnum_eq, enD_one, dZip, start0, dYes, ioAll, wipeS, List.mem_cons, List.not_mem_nil,  dSumA, dMaxA, dMinA, dAllA, dAnyA, dOnA, intsL_ints, blsL_bls, atI_0, atI_1, atI_2, atI_3, ixN_lit0, ixN_lit1, ixN_lit2, ixN_lit3,
  List.getElem?_cons_zero, List.getElem?_cons_succ, List.set_cons_zero, List.set_cons_succ, List.map_cons, List.map_nil, List.length_cons, List.length_nil, List.getD_cons_zero, List.getD_cons_succ, List.mapIdx_cons, List.mapIdx_nil, List.findIdx?_cons, List.findIdx?_nil, List.all_cons, List.all_nil, List.append_nil, List.cons_append, List.nil_append, List.replicate_succ, List.replicate_zero, Option.map_some, Option.map_none, List.nodup_cons, List.nodup_nil, List.not_mem_nil, Bool.and_true, Bool.true_and, Bool.and_self, Bool.not_true, Bool.not_false, if_true, if_false, reduceIte, reduceCtorEq, Nat.reduceAdd, Nat.reduceSub, Nat.reduceBEq, Nat.reduceEqDiff, decide_true, decide_false, and_true, true_and, or_false, false_or, not_false_eq_true, beq_self_eq_true, Bool.false_eq_true, Option.getD_some, Option.getD_none, Option.some.injEq, exists_eq_left', ne_self_iff_false, Nat.zero_add, Nat.reduceLeDiff, Int.reduceNeg, and_self]
      exact Ret.same h rfl
    · simp only [dIsE, dXf, m1, m2, m3, m4, dSeq, dNext, dAsg, dgName, dStore, dIfS, dTest_eq, tsD_bl, dOp, dVar, dC, dRet, dRetN, dNever, dBrk, dCnt, dAnd, dOr, dNot, dAndV_eq, dOrV_eq, dNotV_eq, dIf, dNil, dCons, dConsS, dArgs, avD, dCB, dCBO, dInt1_int, dInt2_int, dIntOf_int, dIntOf_bl, dTup, dLst, dFrz, dDrop, dEq_int, dNe_int, dI0_int, dI2_int, dLt_int, dLe_int, dGt_int, dGe_int, dIsN_non, dNotN_non, dIsB_bl, dNotB_bl, isNon_sq, isNon_non, isNon_int, isNon_bl, isNon_str, isNon_tup, isNon_lst, dIx_sq, dIx_tup, dIx_lst, dIx_fl, dIxO, ixO_m, dSetI, dMet, mApp, mPop, mPopAt, mIns, mClear, dPart, dNoPart, dSl_eq, slD_sq, slD_tup, slD_lst, slD_fl, dSlL, dListOf_sq, dListOf_tup, dListOf_lst, dTupOf_sq, dTupOf_tup, dTupOf_lst, dLen_sq, dLen_tup, dLen_lst, dLen_fl, dAdd_int, dAdd_tup, dAdd_lst, dAdd_str, dAddO, dAsgO, dStill, dOpen, dHide, dIsi_ii, dIsi_ib, dIsi_tt, dIsi_ll, dIsi_sq, dIsiT_row, dIsi_bb, dIsi_bi, dIsi_bt, dIsi_it, dIsi_il, dIsi_is, dIsi_nb, dIsi_ni, dIsi_nt, dIsi_nl, dIsi_ti, dIsi_tb, dIsi_tl, dIsi_ts, dIsi_li, dIsi_lb, dIsi_lt, dIsi_ls, dIsi_si, dIsi_sb, dIsi_st, dIsi_ss, dEq_bl, dNe_bl, dInRange, dRgB, dCall_of, dCallO_of, AV.ok, AV.sv, slotsOf, setIo_un, setIo_d, setIo_ol, setIo_op, setIo_ok, setIo_ot, own_un, own_d, own_ol, own_op, own_ok, own_ot, io_un, io_d, io_ol, io_op, io_ok, io_ot, putBack, AV.isSl, dgSeq, dgCons, dgNil, seqOf_sq, seqOf_tup', seqOf_lst, seqOf_fl, dLook, dLookT, lookAll, SV.look, dAugI, dAugL, dRetO, dRetV, dChain_eq, dNeg, dIter_eq, itD_sq, itD_tup, itD_lst, itD_fl, dRng1, dRng2, dRng3, dEnum_eq, enD_one, dZip, start0, dYes, ioAll, wipeS, List.mem_cons, List.not_mem_nil,  dSumA, dMaxA, dMinA, dAllA, dAnyA, dOnA, intsL_ints, blsL_bls, atI_0, atI_1, atI_2, atI_3, ixN_lit0, ixN_lit1, ixN_lit2, ixN_lit3,
  List.getElem?_cons_zero, List.getElem?_cons_succ, List.set_cons_zero, List.set_cons_succ, List.map_cons, List.map_nil, List.length_cons, List.length_nil, List.getD_cons_zero, List.getD_cons_succ, List.mapIdx_cons, List.mapIdx_nil, List.findIdx?_cons, List.findIdx?_nil, List.all_cons, List.all_nil, List.append_nil, List.cons_append, List.nil_append, List.replicate_succ, List.replicate_zero, Option.map_some, Option.map_none, List.nodup_cons, List.nodup_nil, List.not_mem_nil, Bool.and_true, Bool.true_and, Bool.and_self, Bool.not_true, Bool.not_false, if_true, if_false, reduceIte, reduceCtorEq, Nat.reduceAdd, Nat.reduceSub, Nat.reduceBEq, Nat.reduceEqDiff, decide_true, decide_false, and_true, true_and, or_false, false_or, not_false_eq_true, beq_self_eq_true, Bool.false_eq_true, Option.getD_some, Option.getD_none, Option.some.injEq, exists_eq_left', ne_self_iff_false, Nat.zero_add, Nat.reduceLeDiff, Int.reduceNeg, and_self]
      obtain ⟨t, e⟩ := Option.isSome_iff_exists.mp ht
      have : dIsi [x, .ty "int"] = fun Φ => Φ (.bl false) := by
        cases x with
        | int v => exact absurd rfl (z1 v)
        | bl b => exact absurd rfl (z2 b)
        | non => funext Φ; exact propext ⟨fun h => h.2, fun h => ⟨by decide, h⟩⟩
        | str _ => funext Φ; exact propext ⟨fun h => h.2, fun h => ⟨by decide, h⟩⟩
        | tup _ => funext Φ; exact propext ⟨fun h => h.2, fun h => ⟨by decide, h⟩⟩
        | lst _ => funext Φ; exact propext ⟨fun h => h.2, fun h => ⟨by decide, h⟩⟩
        | fl _ => funext Φ; exact propext ⟨fun h => h.2, fun h => ⟨by decide, h⟩⟩
        | _ => exact absurd ht Bool.false_ne_true
      rw [this]
      simp only [dRepr, dSeq, dNext, dAsg, dgName, dStore, dIfS, dTest_eq, tsD_bl, dOp, dVar, dC, dRet, dRetN, dNever, dBrk, dCnt, dAnd, dOr, dNot, dAndV_eq, dOrV_eq, dNotV_eq, dIf, dNil, dCons, dConsS, dArgs, avD, dCB, dCBO, dInt1_int, dInt2_int, dIntOf_int, dIntOf_bl, dTup, dLst, dFrz, dDrop, dEq_int, dNe_int, dI0_int, dI2_int, dLt_int, dLe_int, dGt_int, dGe_int, dIsN_non, dNotN_non, dIsB_bl, dNotB_bl, isNon_sq, isNon_non, isNon_int, isNon_bl, isNon_str, isNon_tup, isNon_lst, dIx_sq, dIx_tup, dIx_lst, dIx_fl, dIxO, ixO_m, dSetI, dMet, mApp, mPop, mPopAt, mIns, mClear, dPart, dNoPart, dSl_eq, slD_sq, slD_tup, slD_lst, slD_fl, dSlL, dListOf_sq, dListOf_tup, dListOf_lst, dTupOf_sq, dTupOf_tup, dTupOf_lst, dLen_sq, dLen_tup, dLen_lst, dLen_fl, dAdd_int, dAdd_tup, dAdd_lst, dAdd_str, dAddO, dAsgO, dStill, dOpen, dHide, dIsi_ii, dIsi_ib, dIsi_tt, dIsi_ll, dIsi_sq, dIsiT_row, dIsi_bb, dIsi_bi, dIsi_bt, dIsi_it, dIsi_il, dIsi_is, dIsi_nb, dIsi_ni, dIsi_nt, dIsi_nl, dIsi_ti, dIsi_tb, dIsi_tl, dIsi_ts, dIsi_li, dIsi_lb, dIsi_lt, dIsi_ls, dIsi_si, dIsi_sb, dIsi_st, dIsi_ss, dEq_bl, dNe_bl, dInRange, dRgB, dCall_of, dCallO_of, AV.ok, AV.sv, slotsOf, setIo_un, setIo_d, setIo_ol, setIo_op, setIo_ok, setIo_ot, own_un, own_d, own_ol, own_op, own_ok, own_ot, io_un, io_d, io_ol, io_op, io_ok, io_ot, putBack, AV.isSl, dgSeq, dgCons, dgNil, seqOf_sq, seqOf_tup', seqOf_lst, seqOf_fl, dLook, dLookT, lookAll, SV.look, dAugI, dAugL, dRetO, dRetV, dChain_eq, dNeg, dIter_eq, itD_sq, itD_tup, itD_lst, itD_fl, dRng1, dRng2, dRng3, dEnum_eq, enD_one, dZip, start0, dYes, ioAll, wipeS, List.mem_cons, List.not_mem_nil,  dSumA, dMaxA, dMinA, dAllA, dAnyA, dOnA, intsL_ints, blsL_bls, atI_0, atI_1, atI_2, atI_3, ixN_lit0, ixN_lit1, ixN_lit2, ixN_lit3,
  List.getElem?_cons_zero, List.getElem?_cons_succ, List.set_cons_zero, List.set_cons_succ, List.map_cons, List.map_nil, List.length_cons, List.length_nil, List.getD_cons_zero, List.getD_cons_succ, List.mapIdx_cons, List.mapIdx_nil, List.findIdx?_cons, List.findIdx?_nil, List.all_cons, List.all_nil, List.append_nil, List.cons_append, List.nil_append, List.replicate_succ, List.replicate_zero, Option.map_some, Option.map_none, List.nodup_cons, List.nodup_nil, List.not_mem_nil, Bool.and_true, Bool.true_and, Bool.and_self, Bool.not_true, Bool.not_false, if_true, if_false, reduceIte, reduceCtorEq, Nat.reduceAdd, Nat.reduceSub, Nat.reduceBEq, Nat.reduceEqDiff, decide_true, decide_false, and_true, true_and, or_false, false_or, not_false_eq_true, beq_self_eq_true, Bool.false_eq_true, Option.getD_some, Option.getD_none, Option.some.injEq, exists_eq_left', ne_self_iff_false, Nat.zero_add, Nat.reduceLeDiff, Int.reduceNeg, and_self]
      refine ⟨z3, z4, z5, z3, z4, z5, ?_⟩
      exact dEq_str _ _ z6 z6 (by rw [decide_eq_true rfl]; exact Ret.same h rfl)
theorem spans_len : ∀ n : Fin 25, (spansL n.val).length = n.val * (n.val + 1) / 2 := by decide +kernel
theorem spans_at (n f d : Nat) (hf : f < n) (hd : d < n - f) : (spansL n)[((List.range f).flatMap (spanRow n)).length + d]? = some ((f : Int), ((f + d : Nat) : Int)) := by
  unfold spansL
  have e : List.range n = List.range f ++ (f :: (List.range n).drop (f + 1)) := by
    have h1 : (List.range n).take f = List.range f := by rw [List.take_range]; congr 1; omega
    have h2 : (List.range n).drop f = f :: (List.range n).drop (f + 1) := by
      rw [List.drop_eq_getElem_cons (by simpa using hf)]; simp
    rw [← h2, ← h1, List.take_append_drop]
  rw [e, List.flatMap_append, List.flatMap_cons, List.getElem?_append_right (by omega), Nat.add_sub_cancel_left, List.getElem?_append_left (by unfold spanRow; simp; omega)]
  unfold spanRow
  rw [List.getElem?_map, List.getElem?_range hd]; rfl
theorem rd__law_all : Reads 1 N__law_all S__law_all ds__law_all := by
  intro svs ret exc h
  obtain ⟨n, rfl, h1, h2, h⟩ := h
  refine ⟨rfl, ?_⟩
  have el := spans_len ⟨n, by omega⟩
  dsimp only at el
  simp only [ds__law_all, dSeq, dNext, dAsg, dgName, dStore, dIfS, dTest_eq, tsD_bl, dOp, dVar, dC, dRet, dRetN, dNever, dBrk, dCnt, dAnd, dOr, dNot, dAndV_eq, dOrV_eq, dNotV_eq, dIf, dNil, dCons, dConsS, dArgs, avD, dCB, dCBO, dInt1_int, dInt2_int, dIntOf_int, dIntOf_bl, dTup, dLst, dFrz, dDrop, dEq_int, dNe_int, dI0_int, dI2_int, dLt_int, dLe_int, dGt_int, dGe_int, dIsN_non, dNotN_non, dIsB_bl, dNotB_bl, isNon_sq, isNon_non, isNon_int, isNon_bl, isNon_str, isNon_tup, isNon_lst, dIx_sq, dIx_tup, dIx_lst, dIx_fl, dIxO, ixO_m, dSetI, dMet, mApp, mPop, mPopAt, mIns, mClear, dPart, dNoPart, dSl_eq, slD_sq, slD_tup, slD_lst, slD_fl, dSlL, dListOf_sq, dListOf_tup, dListOf_lst, dTupOf_sq, dTupOf_tup, dTupOf_lst, dLen_sq, dLen_tup, dLen_lst, dLen_fl, dAdd_int, dAdd_tup, dAdd_lst, dAdd_str, dAddO, dAsgO, dStill, dOpen, dHide, dIsi_ii, dIsi_ib, dIsi_tt, dIsi_ll, dIsi_sq, dIsiT_row, dIsi_bb, dIsi_bi, dIsi_bt, dIsi_it, dIsi_il, dIsi_is, dIsi_nb, dIsi_ni, dIsi_nt, dIsi_nl, dIsi_ti, dIsi_tb, dIsi_tl, dIsi_ts, dIsi_li, dIsi_lb, dIsi_lt, dIsi_ls, dIsi_si, dIsi_sb, dIsi_st, dIsi_ss, dEq_bl, dNe_bl, dInRange, dRgB, dCall_of, dCallO_of, AV.ok, AV.sv, slotsOf, setIo_un, setIo_d, setIo_ol, setIo_op, setIo_ok, setIo_ot, own_un, own_d, own_ol, own_op, own_ok, own_ot, io_un, io_d, io_ol, io_op, io_ok, io_ot, putBack, AV.isSl, dgSeq, dgCons, dgNil, seqOf_sq, seqOf_tup', seqOf_lst, seqOf_fl, dLook, dLookT, lookAll, SV.look, dAugI, dAugL, dRetO, dRetV, dChain_eq, dNeg, dIter_eq, itD_sq, itD_tup, itD_lst, itD_fl, dRng1, dRng2, dRng3, dEnum_eq, enD_one, dZip, start0, dYes, ioAll, wipeS, List.mem_cons, List.not_mem_nil,  dSumA, dMaxA, dMinA, dAllA, dAnyA, dOnA, intsL_ints, blsL_bls, atI_0, atI_1, atI_2, atI_3, ixN_lit0, ixN_lit1, ixN_lit2, ixN_lit3,
  List.getElem?_cons_zero, List.getElem?_cons_succ, List.set_cons_zero, List.set_cons_succ, List.map_cons, List.map_nil, List.length_cons, List.length_nil, List.getD_cons_zero, List.getD_cons_succ, List.mapIdx_cons, List.mapIdx_nil, List.findIdx?_cons, List.findIdx?_nil, List.all_cons, List.all_nil, List.append_nil, List.cons_append, List.nil_append, List.replicate_succ, List.replicate_zero, Option.map_some, Option.map_none, List.nodup_cons, List.nodup_nil, List.not_mem_nil, Bool.and_true, Bool.true_and, Bool.and_self, Bool.not_true, Bool.not_false, if_true, if_false, reduceIte, reduceCtorEq, Nat.reduceAdd, Nat.reduceSub, Nat.reduceBEq, Nat.reduceEqDiff, decide_true, decide_false, and_true, true_and, or_false, false_or, not_false_eq_true, beq_self_eq_true, Bool.false_eq_true, Option.getD_some, Option.getD_none, Option.some.injEq, exists_eq_left', ne_self_iff_false, Nat.zero_add, Nat.reduceLeDiff, Int.reduceNeg, and_self]
  refine ⟨.int n, rfl, rfl, fun n' e q1 q2 => ?_, fun e => absurd e (by unfold inFT; simp; omega)⟩
  have e' : n = n' := by injection e with e; omega
  subst e'
  simp only [ds__law_all_s1, dSeq, dNext, dAsg, dgName, dStore, dIfS, dTest_eq, tsD_bl, dOp, dVar, dC, dRet, dRetN, dNever, dBrk, dCnt, dAnd, dOr, dNot, dAndV_eq, dOrV_eq, dNotV_eq, dIf, dNil, dCons, dConsS, dArgs, avD, dCB, dCBO, dInt1_int, dInt2_int, dIntOf_int, dIntOf_bl, dTup, dLst, dFrz, dDrop, dEq_int, dNe_int, dI0_int, dI2_int, dLt_int, dLe_int, dGt_int, dGe_int, dIsN_non, dNotN_non, dIsB_bl, dNotB_bl, isNon_sq, isNon_non, isNon_int, isNon_bl, isNon_str, isNon_tup, isNon_lst, dIx_sq, dIx_tup, dIx_lst, dIx_fl, dIxO, ixO_m, dSetI, dMet, mApp, mPop, mPopAt, mIns, mClear, dPart, dNoPart, dSl_eq, slD_sq, slD_tup, slD_lst, slD_fl, dSlL, dListOf_sq, dListOf_tup, dListOf_lst, dTupOf_sq, dTupOf_tup, dTupOf_lst, dLen_sq, dLen_tup, dLen_lst, dLen_fl, dAdd_int, dAdd_tup, dAdd_lst, dAdd_str, dAddO, dAsgO, dStill, dOpen, dHide, dIsi_ii, dIsi_ib, dIsi_tt, dIsi_ll, dIsi_sq, dIsiT_row, dIsi_bb, dIsi_bi, dIsi_bt, dIsi_it, dIsi_il, dIsi_is, dIsi_nb, dIsi_ni, dIsi_nt, dIsi_nl, dIsi_ti, dIsi_tb, dIsi_tl, dIsi_ts, dIsi_li, dIsi_lb, dIsi_lt, dIsi_ls, dIsi_si, dIsi_sb, dIsi_st, dIsi_ss, dEq_bl, dNe_bl, dInRange, dRgB, dCall_of, dCallO_of, AV.ok, AV.sv, slotsOf, setIo_un, setIo_d, setIo_ol, setIo_op, setIo_ok, setIo_ot, own_un, own_d, own_ol, own_op, own_ok, own_ot, io_un, io_d, io_ol, io_op, io_ok, io_ot, putBack, AV.isSl, dgSeq, dgCons, dgNil, seqOf_sq, seqOf_tup', seqOf_lst, seqOf_fl, dLook, dLookT, lookAll, SV.look, dAugI, dAugL, dRetO, dRetV, dChain_eq, dNeg, dIter_eq, itD_sq, itD_tup, itD_lst, itD_fl, dRng1, dRng2, dRng3, dEnum_eq, enD_one, dZip, start0, dYes, ioAll, wipeS, List.mem_cons, List.not_mem_nil,  dSumA, dMaxA, dMinA, dAllA, dAnyA, dOnA, intsL_ints, blsL_bls, atI_0, atI_1, atI_2, atI_3, ixN_lit0, ixN_lit1, ixN_lit2, ixN_lit3,
  List.getElem?_cons_zero, List.getElem?_cons_succ, List.set_cons_zero, List.set_cons_succ, List.map_cons, List.map_nil, List.length_cons, List.length_nil, List.getD_cons_zero, List.getD_cons_succ, List.mapIdx_cons, List.mapIdx_nil, List.findIdx?_cons, List.findIdx?_nil, List.all_cons, List.all_nil, List.append_nil, List.cons_append, List.nil_append, List.replicate_succ, List.replicate_zero, Option.map_some, Option.map_none, List.nodup_cons, List.nodup_nil, List.not_mem_nil, Bool.and_true, Bool.true_and, Bool.and_self, Bool.not_true, Bool.not_false, if_true, if_false, reduceIte, reduceCtorEq, Nat.reduceAdd, Nat.reduceSub, Nat.reduceBEq, Nat.reduceEqDiff, decide_true, decide_false, and_true, true_and, or_false, false_or, not_false_eq_true, beq_self_eq_true, Bool.false_eq_true, Option.getD_some, Option.getD_none, Option.some.injEq, exists_eq_left', ne_self_iff_false, Nat.zero_add, Nat.reduceLeDiff, Int.reduceNeg, and_self]
  refine ⟨.inl ⟨by omega, by omega⟩, ⟨by decide, by decide⟩, ?_⟩
  have e2 : (((spansL n).map (pr true)).length : Int) = (n : Int) * (n + 1) / 2 := by
    rw [List.length_map, el]
    simp [Int.natCast_mul]
  rw [if_neg (by rw [decide_eq_true_eq]; exact fun z => z e2)]
  simp only [ds__law_all_s2, dSeq, dNext, dAsg, dgName, dStore, dIfS, dTest_eq, tsD_bl, dOp, dVar, dC, dRet, dRetN, dNever, dBrk, dCnt, dAnd, dOr, dNot, dAndV_eq, dOrV_eq, dNotV_eq, dIf, dNil, dCons, dConsS, dArgs, avD, dCB, dCBO, dInt1_int, dInt2_int, dIntOf_int, dIntOf_bl, dTup, dLst, dFrz, dDrop, dEq_int, dNe_int, dI0_int, dI2_int, dLt_int, dLe_int, dGt_int, dGe_int, dIsN_non, dNotN_non, dIsB_bl, dNotB_bl, isNon_sq, isNon_non, isNon_int, isNon_bl, isNon_str, isNon_tup, isNon_lst, dIx_sq, dIx_tup, dIx_lst, dIx_fl, dIxO, ixO_m, dSetI, dMet, mApp, mPop, mPopAt, mIns, mClear, dPart, dNoPart, dSl_eq, slD_sq, slD_tup, slD_lst, slD_fl, dSlL, dListOf_sq, dListOf_tup, dListOf_lst, dTupOf_sq, dTupOf_tup, dTupOf_lst, dLen_sq, dLen_tup, dLen_lst, dLen_fl, dAdd_int, dAdd_tup, dAdd_lst, dAdd_str, dAddO, dAsgO, dStill, dOpen, dHide, dIsi_ii, dIsi_ib, dIsi_tt, dIsi_ll, dIsi_sq, dIsiT_row, dIsi_bb, dIsi_bi, dIsi_bt, dIsi_it, dIsi_il, dIsi_is, dIsi_nb, dIsi_ni, dIsi_nt, dIsi_nl, dIsi_ti, dIsi_tb, dIsi_tl, dIsi_ts, dIsi_li, dIsi_lb, dIsi_lt, dIsi_ls, dIsi_si, dIsi_sb, dIsi_st, dIsi_ss, dEq_bl, dNe_bl, dInRange, dRgB, dCall_of, dCallO_of, AV.ok, AV.sv, slotsOf, setIo_un, setIo_d, setIo_ol, setIo_op, setIo_ok, setIo_ot, own_un, own_d, own_ol, own_op, own_ok, own_ot, io_un, io_d, io_ol, io_op, io_ok, io_ot, putBack, AV.isSl, dgSeq, dgCons, dgNil, seqOf_sq, seqOf_tup', seqOf_lst, seqOf_fl, dLook, dLookT, lookAll, SV.look, dAugI, dAugL, dRetO, dRetV, dChain_eq, dNeg, dIter_eq, itD_sq, itD_tup, itD_lst, itD_fl, dRng1, dRng2, dRng3, dEnum_eq, enD_one, dZip, start0, dYes, ioAll, wipeS, List.mem_cons, List.not_mem_nil,  dSumA, dMaxA, dMinA, dAllA, dAnyA, dOnA, intsL_ints, blsL_bls, atI_0, atI_1, atI_2, atI_3, ixN_lit0, ixN_lit1, ixN_lit2, ixN_lit3,
  List.getElem?_cons_zero, List.getElem?_cons_succ, List.set_cons_zero, List.set_cons_succ, List.map_cons, List.map_nil, List.length_cons, List.length_nil, List.getD_cons_zero, List.getD_cons_succ, List.mapIdx_cons, List.mapIdx_nil, List.findIdx?_cons, List.findIdx?_nil, List.all_cons, List.all_nil, List.append_nil, List.cons_append, List.nil_append, List.replicate_succ, List.replicate_zero, Option.map_some, Option.map_none, List.nodup_cons, List.nodup_nil, List.not_mem_nil, Bool.and_true, Bool.true_and, Bool.and_self, Bool.not_true, Bool.not_false, if_true, if_false, reduceIte, reduceCtorEq, Nat.reduceAdd, Nat.reduceSub, Nat.reduceBEq, Nat.reduceEqDiff, decide_true, decide_false, and_true, true_and, or_false, false_or, not_false_eq_true, beq_self_eq_true, Bool.false_eq_true, Option.getD_some, Option.getD_none, Option.some.injEq, exists_eq_left', ne_self_iff_false, Nat.zero_add, Nat.reduceLeDiff, Int.reduceNeg, and_self]
  simp only [ds__law_all_s3, dSeq, dNext, dAsg, dgName, dStore, dIfS, dTest_eq, tsD_bl, dOp, dVar, dC, dRet, dRetN, dNever, dBrk, dCnt, dAnd, dOr, dNot, dAndV_eq, dOrV_eq, dNotV_eq, dIf, dNil, dCons, dConsS, dArgs, avD, dCB, dCBO, dInt1_int, dInt2_int, dIntOf_int, dIntOf_bl, dTup, dLst, dFrz, dDrop, dEq_int, dNe_int, dI0_int, dI2_int, dLt_int, dLe_int, dGt_int, dGe_int, dIsN_non, dNotN_non, dIsB_bl, dNotB_bl, isNon_sq, isNon_non, isNon_int, isNon_bl, isNon_str, isNon_tup, isNon_lst, dIx_sq, dIx_tup, dIx_lst, dIx_fl, dIxO, ixO_m, dSetI, dMet, mApp, mPop, mPopAt, mIns, mClear, dPart, dNoPart, dSl_eq, slD_sq, slD_tup, slD_lst, slD_fl, dSlL, dListOf_sq, dListOf_tup, dListOf_lst, dTupOf_sq, dTupOf_tup, dTupOf_lst, dLen_sq, dLen_tup, dLen_lst, dLen_fl, dAdd_int, dAdd_tup, dAdd_lst, dAdd_str, dAddO, dAsgO, dStill, dOpen, dHide, dIsi_ii, dIsi_ib, dIsi_tt, dIsi_ll, dIsi_sq, dIsiT_row, dIsi_bb, dIsi_bi, dIsi_bt, dIsi_it, dIsi_il, dIsi_is, dIsi_nb, dIsi_ni, dIsi_nt, dIsi_nl, dIsi_ti, dIsi_tb, dIsi_tl, dIsi_ts, dIsi_li, dIsi_lb, dIsi_lt, dIsi_ls, dIsi_si, dIsi_sb, dIsi_st, dIsi_ss, dEq_bl, dNe_bl, dInRange, dRgB, dCall_of, dCallO_of, AV.ok, AV.sv, slotsOf, setIo_un, setIo_d, setIo_ol, setIo_op, setIo_ok, setIo_ot, own_un, own_d, own_ol, own_op, own_ok, own_ot, io_un, io_d, io_ol, io_op, io_ok, io_ot, putBack, AV.isSl, dgSeq, dgCons, dgNil, seqOf_sq, seqOf_tup', seqOf_lst, seqOf_fl, dLook, dLookT, lookAll, SV.look, dAugI, dAugL, dRetO, dRetV, dChain_eq, dNeg, dIter_eq, itD_sq, itD_tup, itD_lst, itD_fl, dRng1, dRng2, dRng3, dEnum_eq, enD_one, dZip, start0, dYes, ioAll, wipeS, List.mem_cons, List.not_mem_nil,  dSumA, dMaxA, dMinA, dAllA, dAnyA, dOnA, intsL_ints, blsL_bls, atI_0, atI_1, atI_2, atI_3, ixN_lit0, ixN_lit1, ixN_lit2, ixN_lit3,
  List.getElem?_cons_zero, List.getElem?_cons_succ, List.set_cons_zero, List.set_cons_succ, List.map_cons, List.map_nil, List.length_cons, List.length_nil, List.getD_cons_zero, List.getD_cons_succ, List.mapIdx_cons, List.mapIdx_nil, List.findIdx?_cons, List.findIdx?_nil, List.all_cons, List.all_nil, List.append_nil, List.cons_append, List.nil_append, List.replicate_succ, List.replicate_zero, Option.map_some, Option.map_none, List.nodup_cons, List.nodup_nil, List.not_mem_nil, Bool.and_true, Bool.true_and, Bool.and_self, Bool.not_true, Bool.not_false, if_true, if_false, reduceIte, reduceCtorEq, Nat.reduceAdd, Nat.reduceSub, Nat.reduceBEq, Nat.reduceEqDiff, decide_true, decide_false, and_true, true_and, or_false, false_or, not_false_eq_true, beq_self_eq_true, Bool.false_eq_true, Option.getD_some, Option.getD_none, Option.some.injEq, exists_eq_left', ne_self_iff_false, Nat.zero_add, Nat.reduceLeDiff, Int.reduceNeg, and_self]
  refine for_of (DL.intsFrom 0 n) _ (fun Φ Ξ h => by (try walk_at "dl"); exact ⟨by omega, by simpa using h⟩) (fun k ρ => ρ = [.d (.int n), .d (.tup ((spansL n).map (pr true))), .d (.int (((List.range k).flatMap (spanRow n)).length : Nat)), .un, .un]) rfl (fun k x ρ2 hx e => ?_) (fun ρ2 e => ?_)
  · subst e
    obtain ⟨hk, rfl⟩ := ints0_at hx
    simp only [ds__law_all_b2, dSeq, dNext, dAsg, dgName, dStore, dIfS, dTest_eq, tsD_bl, dOp, dVar, dC, dRet, dRetN, dNever, dBrk, dCnt, dAnd, dOr, dNot, dAndV_eq, dOrV_eq, dNotV_eq, dIf, dNil, dCons, dConsS, dArgs, avD, dCB, dCBO, dInt1_int, dInt2_int, dIntOf_int, dIntOf_bl, dTup, dLst, dFrz, dDrop, dEq_int, dNe_int, dI0_int, dI2_int, dLt_int, dLe_int, dGt_int, dGe_int, dIsN_non, dNotN_non, dIsB_bl, dNotB_bl, isNon_sq, isNon_non, isNon_int, isNon_bl, isNon_str, isNon_tup, isNon_lst, dIx_sq, dIx_tup, dIx_lst, dIx_fl, dIxO, ixO_m, dSetI, dMet, mApp, mPop, mPopAt, mIns, mClear, dPart, dNoPart, dSl_eq, slD_sq, slD_tup, slD_lst, slD_fl, dSlL, dListOf_sq, dListOf_tup, dListOf_lst, dTupOf_sq, dTupOf_tup, dTupOf_lst, dLen_sq, dLen_tup, dLen_lst, dLen_fl, dAdd_int, dAdd_tup, dAdd_lst, dAdd_str, dAddO, dAsgO, dStill, dOpen, dHide, dIsi_ii, dIsi_ib, dIsi_tt, dIsi_ll, dIsi_sq, dIsiT_row, dIsi_bb, dIsi_bi, dIsi_bt, dIsi_it, dIsi_il, dIsi_is, dIsi_nb, dIsi_ni, dIsi_nt, dIsi_nl, dIsi_ti, dIsi_tb, dIsi_tl, dIsi_ts, dIsi_li, dIsi_lb, dIsi_lt, dIsi_ls, dIsi_si, dIsi_sb, dIsi_st, dIsi_ss, dEq_bl, dNe_bl, dInRange, dRgB, dCall_of, dCallO_of, AV.ok, AV.sv, slotsOf, setIo_un, setIo_d, setIo_ol, setIo_op, setIo_ok, setIo_ot, own_un, own_d, own_ol, own_op, own_ok, own_ot, io_un, io_d, io_ol, io_op, io_ok, io_ot, putBack, AV.isSl, dgSeq, dgCons, dgNil, seqOf_sq, seqOf_tup', seqOf_lst, seqOf_fl, dLook, dLookT, lookAll, SV.look, dAugI, dAugL, dRetO, dRetV, dChain_eq, dNeg, dIter_eq, itD_sq, itD_tup, itD_lst, itD_fl, dRng1, dRng2, dRng3, dEnum_eq, enD_one, dZip, start0, dYes, ioAll, wipeS, List.mem_cons, List.not_mem_nil,  dSumA, dMaxA, dMinA, dAllA, dAnyA, dOnA, intsL_ints, blsL_bls, atI_0, atI_1, atI_2, atI_3, ixN_lit0, ixN_lit1, ixN_lit2, ixN_lit3,
  List.getElem?_cons_zero, List.getElem?_cons_succ, List.set_cons_zero, List.set_cons_succ, List.map_cons, List.map_nil, List.length_cons, List.length_nil, List.getD_cons_zero, List.getD_cons_succ, List.mapIdx_cons, List.mapIdx_nil, List.findIdx?_cons, List.findIdx?_nil, List.all_cons, List.all_nil, List.append_nil, List.cons_append, List.nil_append, List.replicate_succ, List.replicate_zero, Option.map_some, Option.map_none, List.nodup_cons, List.nodup_nil, List.not_mem_nil, Bool.and_true, Bool.true_and, Bool.and_self, Bool.not_true, Bool.not_false, if_true, if_false, reduceIte, reduceCtorEq, Nat.reduceAdd, Nat.reduceSub, Nat.reduceBEq, Nat.reduceEqDiff, decide_true, decide_false, and_true, true_and, or_false, false_or, not_false_eq_true, beq_self_eq_true, Bool.false_eq_true, Option.getD_some, Option.getD_none, Option.some.injEq, exists_eq_left', ne_self_iff_false, Nat.zero_add, Nat.reduceLeDiff, Int.reduceNeg, and_self]
    refine for_of (DL.intsFrom k (n - k)) _ (fun Φ Ξ h => by
      walk_at "dl"
      rw [show ((n : Int) - (k : Int)).toNat = n - k by omega]
      exact ⟨by omega, h⟩) (fun j ρ => ρ = [.d (.int n), .d (.tup ((spansL n).map (pr true))), .d (.int ((((List.range k).flatMap (spanRow n)).length + j : Nat) : Int)), .d (.int k), .un]) rfl (fun j x ρ2 hx e => ?_) (fun ρ2 e => ?_)
    · subst e
      obtain ⟨hj, rfl⟩ := ints_at hx
      simp only [ds__law_all_b1, dSeq, dNext, dAsg, dgName, dStore, dIfS, dTest_eq, tsD_bl, dOp, dVar, dC, dRet, dRetN, dNever, dBrk, dCnt, dAnd, dOr, dNot, dAndV_eq, dOrV_eq, dNotV_eq, dIf, dNil, dCons, dConsS, dArgs, avD, dCB, dCBO, dInt1_int, dInt2_int, dIntOf_int, dIntOf_bl, dTup, dLst, dFrz, dDrop, dEq_int, dNe_int, dI0_int, dI2_int, dLt_int, dLe_int, dGt_int, dGe_int, dIsN_non, dNotN_non, dIsB_bl, dNotB_bl, isNon_sq, isNon_non, isNon_int, isNon_bl, isNon_str, isNon_tup, isNon_lst, dIx_sq, dIx_tup, dIx_lst, dIx_fl, dIxO, ixO_m, dSetI, dMet, mApp, mPop, mPopAt, mIns, mClear, dPart, dNoPart, dSl_eq, slD_sq, slD_tup, slD_lst, slD_fl, dSlL, dListOf_sq, dListOf_tup, dListOf_lst, dTupOf_sq, dTupOf_tup, dTupOf_lst, dLen_sq, dLen_tup, dLen_lst, dLen_fl, dAdd_int, dAdd_tup, dAdd_lst, dAdd_str, dAddO, dAsgO, dStill, dOpen, dHide, dIsi_ii, dIsi_ib, dIsi_tt, dIsi_ll, dIsi_sq, dIsiT_row, dIsi_bb, dIsi_bi, dIsi_bt, dIsi_it, dIsi_il, dIsi_is, dIsi_nb, dIsi_ni, dIsi_nt, dIsi_nl, dIsi_ti, dIsi_tb, dIsi_tl, dIsi_ts, dIsi_li, dIsi_lb, dIsi_lt, dIsi_ls, dIsi_si, dIsi_sb, dIsi_st, dIsi_ss, dEq_bl, dNe_bl, dInRange, dRgB, dCall_of, dCallO_of, AV.ok, AV.sv, slotsOf, setIo_un, setIo_d, setIo_ol, setIo_op, setIo_ok, setIo_ot, own_un, own_d, own_ol, own_op, own_ok, own_ot, io_un, io_d, io_ol, io_op, io_ok, io_ot, putBack, AV.isSl, dgSeq, dgCons, dgNil, seqOf_sq, seqOf_tup', seqOf_lst, seqOf_fl, dLook, dLookT, lookAll, SV.look, dAugI, dAugL, dRetO, dRetV, dChain_eq, dNeg, dIter_eq, itD_sq, itD_tup, itD_lst, itD_fl, dRng1, dRng2, dRng3, dEnum_eq, enD_one, dZip, start0, dYes, ioAll, wipeS, List.mem_cons, List.not_mem_nil,  dSumA, dMaxA, dMinA, dAllA, dAnyA, dOnA, intsL_ints, blsL_bls, atI_0, atI_1, atI_2, atI_3, ixN_lit0, ixN_lit1, ixN_lit2, ixN_lit3,
  List.getElem?_cons_zero, List.getElem?_cons_succ, List.set_cons_zero, List.set_cons_succ, List.map_cons, List.map_nil, List.length_cons, List.length_nil, List.getD_cons_zero, List.getD_cons_succ, List.mapIdx_cons, List.mapIdx_nil, List.findIdx?_cons, List.findIdx?_nil, List.all_cons, List.all_nil, List.append_nil, List.cons_append, List.nil_append, List.replicate_succ, List.replicate_zero, Option.map_some, Option.map_none, List.nodup_cons, List.nodup_nil, List.not_mem_nil, Bool.and_true, Bool.true_and, Bool.and_self, Bool.not_true, Bool.not_false, if_true, if_false, reduceIte, reduceCtorEq, Nat.reduceAdd, Nat.reduceSub, Nat.reduceBEq, Nat.reduceEqDiff, decide_true, decide_false, and_true, true_and, or_false, false_or, not_false_eq_true, beq_self_eq_true, Bool.false_eq_true, Option.getD_some, Option.getD_none, Option.some.injEq, exists_eq_left', ne_self_iff_false, Nat.zero_add, Nat.reduceLeDiff, Int.reduceNeg, and_self]
      have ha : atI ((spansL n).map (pr true)) ((((List.range k).flatMap (spanRow n)).length + j : Nat) : Int) = some (pr true ((k : Int), ((k + j : Nat) : Int))) := atI_nn (by omega) (by
        rw [Int.toNat_natCast, List.getElem?_map, spans_at n k j hk hj]; rfl)
      refine ⟨_, ha, pr true ((k : Int), ((k + j : Nat) : Int)), ?_, .inr ⟨_, rfl⟩, ?_⟩
      · rw [show (k : Int) + (j : Int) = ((k + j : Nat) : Int) by omega]; rfl
      walk_at "dl"
      rw [show ((((List.range k).flatMap (spanRow n)).length + j : Nat) : Int) + 1 = ((((List.range k).flatMap (spanRow n)).length + (j + 1) : Nat) : Int) by omega]
      exact ⟨_, (by repeat (first | exact Weaks.nil | refine Weaks.cons (by first | exact Weak.refl _ | exact Weak.un rfl | (refine Weak.op ?_; assumption)) ?_)), rfl⟩
    · subst e
      rw [ints_len]
      refine ⟨_, ?_, rfl⟩
      rw [show ((List.range k).flatMap (spanRow n)).length + (n - k) = ((List.range (k + 1)).flatMap (spanRow n)).length by rw [List.range_succ, List.flatMap_append, List.length_append]; simp [spanRow]]
      exact (by repeat (first | exact Weaks.nil | refine Weaks.cons (by first | exact Weak.refl _ | exact Weak.un rfl | (refine Weak.op ?_; assumption)) ?_))
  · subst e
    simp only [ds__law_all_s4, dSeq, dNext, dAsg, dgName, dStore, dIfS, dTest_eq, tsD_bl, dOp, dVar, dC, dRet, dRetN, dNever, dBrk, dCnt, dAnd, dOr, dNot, dAndV_eq, dOrV_eq, dNotV_eq, dIf, dNil, dCons, dConsS, dArgs, avD, dCB, dCBO, dInt1_int, dInt2_int, dIntOf_int, dIntOf_bl, dTup, dLst, dFrz, dDrop, dEq_int, dNe_int, dI0_int, dI2_int, dLt_int, dLe_int, dGt_int, dGe_int, dIsN_non, dNotN_non, dIsB_bl, dNotB_bl, isNon_sq, isNon_non, isNon_int, isNon_bl, isNon_str, isNon_tup, isNon_lst, dIx_sq, dIx_tup, dIx_lst, dIx_fl, dIxO, ixO_m, dSetI, dMet, mApp, mPop, mPopAt, mIns, mClear, dPart, dNoPart, dSl_eq, slD_sq, slD_tup, slD_lst, slD_fl, dSlL, dListOf_sq, dListOf_tup, dListOf_lst, dTupOf_sq, dTupOf_tup, dTupOf_lst, dLen_sq, dLen_tup, dLen_lst, dLen_fl, dAdd_int, dAdd_tup, dAdd_lst, dAdd_str, dAddO, dAsgO, dStill, dOpen, dHide, dIsi_ii, dIsi_ib, dIsi_tt, dIsi_ll, dIsi_sq, dIsiT_row, dIsi_bb, dIsi_bi, dIsi_bt, dIsi_it, dIsi_il, dIsi_is, dIsi_nb, dIsi_ni, dIsi_nt, dIsi_nl, dIsi_ti, dIsi_tb, dIsi_tl, dIsi_ts, dIsi_li, dIsi_lb, dIsi_lt, dIsi_ls, dIsi_si, dIsi_sb, dIsi_st, dIsi_ss, dEq_bl, dNe_bl, dInRange, dRgB, dCall_of, dCallO_of, AV.ok, AV.sv, slotsOf, setIo_un, setIo_d, setIo_ol, setIo_op, setIo_ok, setIo_ot, own_un, own_d, own_ol, own_op, own_ok, own_ot, io_un, io_d, io_ol, io_op, io_ok, io_ot, putBack, AV.isSl, dgSeq, dgCons, dgNil, seqOf_sq, seqOf_tup', seqOf_lst, seqOf_fl, dLook, dLookT, lookAll, SV.look, dAugI, dAugL, dRetO, dRetV, dChain_eq, dNeg, dIter_eq, itD_sq, itD_tup, itD_lst, itD_fl, dRng1, dRng2, dRng3, dEnum_eq, enD_one, dZip, start0, dYes, ioAll, wipeS, List.mem_cons, List.not_mem_nil,  dSumA, dMaxA, dMinA, dAllA, dAnyA, dOnA, intsL_ints, blsL_bls, atI_0, atI_1, atI_2, atI_3, ixN_lit0, ixN_lit1, ixN_lit2, ixN_lit3,
  List.getElem?_cons_zero, List.getElem?_cons_succ, List.set_cons_zero, List.set_cons_succ, List.map_cons, List.map_nil, List.length_cons, List.length_nil, List.getD_cons_zero, List.getD_cons_succ, List.mapIdx_cons, List.mapIdx_nil, List.findIdx?_cons, List.findIdx?_nil, List.all_cons, List.all_nil, List.append_nil, List.cons_append, List.nil_append, List.replicate_succ, List.replicate_zero, Option.map_some, Option.map_none, List.nodup_cons, List.nodup_nil, List.not_mem_nil, Bool.and_true, Bool.true_and, Bool.and_self, Bool.not_true, Bool.not_false, if_true, if_false, reduceIte, reduceCtorEq, Nat.reduceAdd, Nat.reduceSub, Nat.reduceBEq, Nat.reduceEqDiff, decide_true, decide_false, and_true, true_and, or_false, false_or, not_false_eq_true, beq_self_eq_true, Bool.false_eq_true, Option.getD_some, Option.getD_none, Option.some.injEq, exists_eq_left', ne_self_iff_false, Nat.zero_add, Nat.reduceLeDiff, Int.reduceNeg, and_self]
    exact Ret.same h rfl
theorem rd__law_periods : Reads 1 N__law_periods S__law_periods ds__law_periods := by
  intro svs ret exc h
  obtain ⟨p, rfl, h1, h2, h3, h⟩ := h
  refine ⟨rfl, ?_⟩
  simp only [ds__law_periods, pr, sq_t, dSeq, dNext, dAsg, dgName, dStore, dIfS, dTest_eq, tsD_bl, dOp, dVar, dC, dRet, dRetN, dNever, dBrk, dCnt, dAnd, dOr, dNot, dAndV_eq, dOrV_eq, dNotV_eq, dIf, dNil, dCons, dConsS, dArgs, avD, dCB, dCBO, dInt1_int, dInt2_int, dIntOf_int, dIntOf_bl, dTup, dLst, dFrz, dDrop, dEq_int, dNe_int, dI0_int, dI2_int, dLt_int, dLe_int, dGt_int, dGe_int, dIsN_non, dNotN_non, dIsB_bl, dNotB_bl, isNon_sq, isNon_non, isNon_int, isNon_bl, isNon_str, isNon_tup, isNon_lst, dIx_sq, dIx_tup, dIx_lst, dIx_fl, dIxO, ixO_m, dSetI, dMet, mApp, mPop, mPopAt, mIns, mClear, dPart, dNoPart, dSl_eq, slD_sq, slD_tup, slD_lst, slD_fl, dSlL, dListOf_sq, dListOf_tup, dListOf_lst, dTupOf_sq, dTupOf_tup, dTupOf_lst, dLen_sq, dLen_tup, dLen_lst, dLen_fl, dAdd_int, dAdd_tup, dAdd_lst, dAdd_str, dAddO, dAsgO, dStill, dOpen, dHide, dIsi_ii, dIsi_ib, dIsi_tt, dIsi_ll, dIsi_sq, dIsiT_row, dIsi_bb, dIsi_bi, dIsi_bt, dIsi_it, dIsi_il, dIsi_is, dIsi_nb, dIsi_ni, dIsi_nt, dIsi_nl, dIsi_ti, dIsi_tb, dIsi_tl, dIsi_ts, dIsi_li, dIsi_lb, dIsi_lt, dIsi_ls, dIsi_si, dIsi_sb, dIsi_st, dIsi_ss, dEq_bl, dNe_bl, dInRange, dRgB, dCall_of, dCallO_of, AV.ok, AV.sv, slotsOf, setIo_un, setIo_d, setIo_ol, setIo_op, setIo_ok, setIo_ot, own_un, own_d, own_ol, own_op, own_ok, own_ot, io_un, io_d, io_ol, io_op, io_ok, io_ot, putBack, AV.isSl, dgSeq, dgCons, dgNil, seqOf_sq, seqOf_tup', seqOf_lst, seqOf_fl, dLook, dLookT, lookAll, SV.look, dAugI, dAugL, dRetO, dRetV, dChain_eq, dNeg, dIter_eq, itD_sq, itD_tup, itD_lst, itD_fl, dRng1, dRng2, dRng3, dEnum_eq, enD_one, dZip, start0, dYes, ioAll, wipeS, List.mem_cons, List.not_mem_nil,  dSumA, dMaxA, dMinA, dAllA, dAnyA, dOnA, intsL_ints, blsL_bls, atI_0, atI_1, atI_2, atI_3, ixN_lit0, ixN_lit1, ixN_lit2, ixN_lit3,
  List.getElem?_cons_zero, List.getElem?_cons_succ, List.set_cons_zero, List.set_cons_succ, List.map_cons, List.map_nil, List.length_cons, List.length_nil, List.getD_cons_zero, List.getD_cons_succ, List.mapIdx_cons, List.mapIdx_nil, List.findIdx?_cons, List.findIdx?_nil, List.all_cons, List.all_nil, List.append_nil, List.cons_append, List.nil_append, List.replicate_succ, List.replicate_zero, Option.map_some, Option.map_none, List.nodup_cons, List.nodup_nil, List.not_mem_nil, Bool.and_true, Bool.true_and, Bool.and_self, Bool.not_true, Bool.not_false, if_true, if_false, reduceIte, reduceCtorEq, Nat.reduceAdd, Nat.reduceSub, Nat.reduceBEq, Nat.reduceEqDiff, decide_true, decide_false, and_true, true_and, or_false, false_or, not_false_eq_true, beq_self_eq_true, Bool.false_eq_true, Option.getD_some, Option.getD_none, Option.some.injEq, exists_eq_left', ne_self_iff_false, Nat.zero_add, Nat.reduceLeDiff, Int.reduceNeg, and_self]
  refine lc_of (DL.intsFrom p.1 (p.2 + 1 - p.1).toNat) _ (fun Φ Ξ h => by (try walk_at "dl"); exact ⟨by omega, h⟩) rfl (by rw [ints_len]; omega) (fun i acc => acc = (DL.intsFrom p.1 (p.2 + 1 - p.1).toNat).take i) (by simp) (fun i x acc hx ha => ?_) (fun acc ha => ?_)
  · subst ha
    have hx' := hx
    obtain ⟨hi, rfl⟩ := ints_at hx
    walk_at "dl"
    refine ⟨same_of rfl rfl, ?_⟩
    rw [List.take_succ, hx']; rfl
  · rw [List.take_length] at ha
    subst ha
    exact Ret.same h rfl
theorem ints_mem {lo : Int} {n : Nat} {v : Int} : D.int v ∈ DL.intsFrom lo n ↔ lo ≤ v ∧ v < lo + n := by
  unfold DL.intsFrom
  rw [List.mem_map]
  constructor
  · rintro ⟨k, hk, e⟩
    rw [List.mem_range] at hk
    injection e with e
    omega
  · rintro ⟨h1, h2⟩
    exact ⟨(v - lo).toNat, List.mem_range.mpr (by omega), by congr 1; omega⟩
/-- what is common of the periods of p and q, in order -/
def comm (p q : Int × Int) (i : Nat) : List D := DL.intsFrom (max p.1 q.1) (min (p.1 + i) (q.2 + 1) - max p.1 q.1).toNat
theorem ints_succ (lo : Int) (n : Nat) : DL.intsFrom lo (n + 1) = DL.intsFrom lo n ++ [.int (lo + n)] := by
  unfold DL.intsFrom; rw [List.range_succ, List.map_append]; rfl
theorem comm_succ (p q : Int × Int) (i : Nat) (hq : q.1 ≤ q.2) : comm p q (i + 1) = comm p q i ++ if q.1 ≤ p.1 + i ∧ p.1 + i ≤ q.2 then [.int (p.1 + i)] else [] := by
  unfold comm
  split
  · rename_i h
    rw [show (min (p.1 + ((i + 1 : Nat) : Int)) (q.2 + 1) - max p.1 q.1).toNat = (min (p.1 + i) (q.2 + 1) - max p.1 q.1).toNat + 1 by omega, ints_succ]
    congr 2
    congr 1
    omega
  · rename_i h
    rw [List.append_nil]
    congr 1
    omega
theorem rd__law_two : Reads 3 N__law_two S__law_two ds__law_two := by
  intro svs ret exc h
  obtain ⟨p, q, w, rfl, p1, p2, p3, q1, q2, q3, w0, w1, h⟩ := h
  refine ⟨rfl, ?_⟩
  simp only [ds__law_two, dSeq, dNext, dAsg, dgName, dStore, dIfS, dTest_eq, tsD_bl, dOp, dVar, dC, dRet, dRetN, dNever, dBrk, dCnt, dAnd, dOr, dNot, dAndV_eq, dOrV_eq, dNotV_eq, dIf, dNil, dCons, dConsS, dArgs, avD, dCB, dCBO, dInt1_int, dInt2_int, dIntOf_int, dIntOf_bl, dTup, dLst, dFrz, dDrop, dEq_int, dNe_int, dI0_int, dI2_int, dLt_int, dLe_int, dGt_int, dGe_int, dIsN_non, dNotN_non, dIsB_bl, dNotB_bl, isNon_sq, isNon_non, isNon_int, isNon_bl, isNon_str, isNon_tup, isNon_lst, dIx_sq, dIx_tup, dIx_lst, dIx_fl, dIxO, ixO_m, dSetI, dMet, mApp, mPop, mPopAt, mIns, mClear, dPart, dNoPart, dSl_eq, slD_sq, slD_tup, slD_lst, slD_fl, dSlL, dListOf_sq, dListOf_tup, dListOf_lst, dTupOf_sq, dTupOf_tup, dTupOf_lst, dLen_sq, dLen_tup, dLen_lst, dLen_fl, dAdd_int, dAdd_tup, dAdd_lst, dAdd_str, dAddO, dAsgO, dStill, dOpen, dHide, dIsi_ii, dIsi_ib, dIsi_tt, dIsi_ll, dIsi_sq, dIsiT_row, dIsi_bb, dIsi_bi, dIsi_bt, dIsi_it, dIsi_il, dIsi_is, dIsi_nb, dIsi_ni, dIsi_nt, dIsi_nl, dIsi_ti, dIsi_tb, dIsi_tl, dIsi_ts, dIsi_li, dIsi_lb, dIsi_lt, dIsi_ls, dIsi_si, dIsi_sb, dIsi_st, dIsi_ss, dEq_bl, dNe_bl, dInRange, dRgB, dCall_of, dCallO_of, AV.ok, AV.sv, slotsOf, setIo_un, setIo_d, setIo_ol, setIo_op, setIo_ok, setIo_ot, own_un, own_d, own_ol, own_op, own_ok, own_ot, io_un, io_d, io_ol, io_op, io_ok, io_ot, putBack, AV.isSl, dgSeq, dgCons, dgNil, seqOf_sq, seqOf_tup', seqOf_lst, seqOf_fl, dLook, dLookT, lookAll, SV.look, dAugI, dAugL, dRetO, dRetV, dChain_eq, dNeg, dIter_eq, itD_sq, itD_tup, itD_lst, itD_fl, dRng1, dRng2, dRng3, dEnum_eq, enD_one, dZip, start0, dYes, ioAll, wipeS, List.mem_cons, List.not_mem_nil,  dSumA, dMaxA, dMinA, dAllA, dAnyA, dOnA, intsL_ints, blsL_bls, atI_0, atI_1, atI_2, atI_3, ixN_lit0, ixN_lit1, ixN_lit2, ixN_lit3,
  List.getElem?_cons_zero, List.getElem?_cons_succ, List.set_cons_zero, List.set_cons_succ, List.map_cons, List.map_nil, List.length_cons, List.length_nil, List.getD_cons_zero, List.getD_cons_succ, List.mapIdx_cons, List.mapIdx_nil, List.findIdx?_cons, List.findIdx?_nil, List.all_cons, List.all_nil, List.append_nil, List.cons_append, List.nil_append, List.replicate_succ, List.replicate_zero, Option.map_some, Option.map_none, List.nodup_cons, List.nodup_nil, List.not_mem_nil, Bool.and_true, Bool.true_and, Bool.and_self, Bool.not_true, Bool.not_false, if_true, if_false, reduceIte, reduceCtorEq, Nat.reduceAdd, Nat.reduceSub, Nat.reduceBEq, Nat.reduceEqDiff, decide_true, decide_false, and_true, true_and, or_false, false_or, not_false_eq_true, beq_self_eq_true, Bool.false_eq_true, Option.getD_some, Option.getD_none, Option.some.injEq, exists_eq_left', ne_self_iff_false, Nat.zero_add, Nat.reduceLeDiff, Int.reduceNeg, and_self]
  refine ⟨p, rfl, p1, p2, by omega, ?_⟩
  simp only [ds__law_two_s1, dSeq, dNext, dAsg, dgName, dStore, dIfS, dTest_eq, tsD_bl, dOp, dVar, dC, dRet, dRetN, dNever, dBrk, dCnt, dAnd, dOr, dNot, dAndV_eq, dOrV_eq, dNotV_eq, dIf, dNil, dCons, dConsS, dArgs, avD, dCB, dCBO, dInt1_int, dInt2_int, dIntOf_int, dIntOf_bl, dTup, dLst, dFrz, dDrop, dEq_int, dNe_int, dI0_int, dI2_int, dLt_int, dLe_int, dGt_int, dGe_int, dIsN_non, dNotN_non, dIsB_bl, dNotB_bl, isNon_sq, isNon_non, isNon_int, isNon_bl, isNon_str, isNon_tup, isNon_lst, dIx_sq, dIx_tup, dIx_lst, dIx_fl, dIxO, ixO_m, dSetI, dMet, mApp, mPop, mPopAt, mIns, mClear, dPart, dNoPart, dSl_eq, slD_sq, slD_tup, slD_lst, slD_fl, dSlL, dListOf_sq, dListOf_tup, dListOf_lst, dTupOf_sq, dTupOf_tup, dTupOf_lst, dLen_sq, dLen_tup, dLen_lst, dLen_fl, dAdd_int, dAdd_tup, dAdd_lst, dAdd_str, dAddO, dAsgO, dStill, dOpen, dHide, dIsi_ii, dIsi_ib, dIsi_tt, dIsi_ll, dIsi_sq, dIsiT_row, dIsi_bb, dIsi_bi, dIsi_bt, dIsi_it, dIsi_il, dIsi_is, dIsi_nb, dIsi_ni, dIsi_nt, dIsi_nl, dIsi_ti, dIsi_tb, dIsi_tl, dIsi_ts, dIsi_li, dIsi_lb, dIsi_lt, dIsi_ls, dIsi_si, dIsi_sb, dIsi_st, dIsi_ss, dEq_bl, dNe_bl, dInRange, dRgB, dCall_of, dCallO_of, AV.ok, AV.sv, slotsOf, setIo_un, setIo_d, setIo_ol, setIo_op, setIo_ok, setIo_ot, own_un, own_d, own_ol, own_op, own_ok, own_ot, io_un, io_d, io_ol, io_op, io_ok, io_ot, putBack, AV.isSl, dgSeq, dgCons, dgNil, seqOf_sq, seqOf_tup', seqOf_lst, seqOf_fl, dLook, dLookT, lookAll, SV.look, dAugI, dAugL, dRetO, dRetV, dChain_eq, dNeg, dIter_eq, itD_sq, itD_tup, itD_lst, itD_fl, dRng1, dRng2, dRng3, dEnum_eq, enD_one, dZip, start0, dYes, ioAll, wipeS, List.mem_cons, List.not_mem_nil,  dSumA, dMaxA, dMinA, dAllA, dAnyA, dOnA, intsL_ints, blsL_bls, atI_0, atI_1, atI_2, atI_3, ixN_lit0, ixN_lit1, ixN_lit2, ixN_lit3,
  List.getElem?_cons_zero, List.getElem?_cons_succ, List.set_cons_zero, List.set_cons_succ, List.map_cons, List.map_nil, List.length_cons, List.length_nil, List.getD_cons_zero, List.getD_cons_succ, List.mapIdx_cons, List.mapIdx_nil, List.findIdx?_cons, List.findIdx?_nil, List.all_cons, List.all_nil, List.append_nil, List.cons_append, List.nil_append, List.replicate_succ, List.replicate_zero, Option.map_some, Option.map_none, List.nodup_cons, List.nodup_nil, List.not_mem_nil, Bool.and_true, Bool.true_and, Bool.and_self, Bool.not_true, Bool.not_false, if_true, if_false, reduceIte, reduceCtorEq, Nat.reduceAdd, Nat.reduceSub, Nat.reduceBEq, Nat.reduceEqDiff, decide_true, decide_false, and_true, true_and, or_false, false_or, not_false_eq_true, beq_self_eq_true, Bool.false_eq_true, Option.getD_some, Option.getD_none, Option.some.injEq, exists_eq_left', ne_self_iff_false, Nat.zero_add, Nat.reduceLeDiff, Int.reduceNeg, and_self]
  refine ⟨q, rfl, q1, q2, by omega, ?_⟩
  simp only [ds__law_two_s2, dSeq, dNext, dAsg, dgName, dStore, dIfS, dTest_eq, tsD_bl, dOp, dVar, dC, dRet, dRetN, dNever, dBrk, dCnt, dAnd, dOr, dNot, dAndV_eq, dOrV_eq, dNotV_eq, dIf, dNil, dCons, dConsS, dArgs, avD, dCB, dCBO, dInt1_int, dInt2_int, dIntOf_int, dIntOf_bl, dTup, dLst, dFrz, dDrop, dEq_int, dNe_int, dI0_int, dI2_int, dLt_int, dLe_int, dGt_int, dGe_int, dIsN_non, dNotN_non, dIsB_bl, dNotB_bl, isNon_sq, isNon_non, isNon_int, isNon_bl, isNon_str, isNon_tup, isNon_lst, dIx_sq, dIx_tup, dIx_lst, dIx_fl, dIxO, ixO_m, dSetI, dMet, mApp, mPop, mPopAt, mIns, mClear, dPart, dNoPart, dSl_eq, slD_sq, slD_tup, slD_lst, slD_fl, dSlL, dListOf_sq, dListOf_tup, dListOf_lst, dTupOf_sq, dTupOf_tup, dTupOf_lst, dLen_sq, dLen_tup, dLen_lst, dLen_fl, dAdd_int, dAdd_tup, dAdd_lst, dAdd_str, dAddO, dAsgO, dStill, dOpen, dHide, dIsi_ii, dIsi_ib, dIsi_tt, dIsi_ll, dIsi_sq, dIsiT_row, dIsi_bb, dIsi_bi, dIsi_bt, dIsi_it, dIsi_il, dIsi_is, dIsi_nb, dIsi_ni, dIsi_nt, dIsi_nl, dIsi_ti, dIsi_tb, dIsi_tl, dIsi_ts, dIsi_li, dIsi_lb, dIsi_lt, dIsi_ls, dIsi_si, dIsi_sb, dIsi_st, dIsi_ss, dEq_bl, dNe_bl, dInRange, dRgB, dCall_of, dCallO_of, AV.ok, AV.sv, slotsOf, setIo_un, setIo_d, setIo_ol, setIo_op, setIo_ok, setIo_ot, own_un, own_d, own_ol, own_op, own_ok, own_ot, io_un, io_d, io_ol, io_op, io_ok, io_ot, putBack, AV.isSl, dgSeq, dgCons, dgNil, seqOf_sq, seqOf_tup', seqOf_lst, seqOf_fl, dLook, dLookT, lookAll, SV.look, dAugI, dAugL, dRetO, dRetV, dChain_eq, dNeg, dIter_eq, itD_sq, itD_tup, itD_lst, itD_fl, dRng1, dRng2, dRng3, dEnum_eq, enD_one, dZip, start0, dYes, ioAll, wipeS, List.mem_cons, List.not_mem_nil,  dSumA, dMaxA, dMinA, dAllA, dAnyA, dOnA, intsL_ints, blsL_bls, atI_0, atI_1, atI_2, atI_3, ixN_lit0, ixN_lit1, ixN_lit2, ixN_lit3,
  List.getElem?_cons_zero, List.getElem?_cons_succ, List.set_cons_zero, List.set_cons_succ, List.map_cons, List.map_nil, List.length_cons, List.length_nil, List.getD_cons_zero, List.getD_cons_succ, List.mapIdx_cons, List.mapIdx_nil, List.findIdx?_cons, List.findIdx?_nil, List.all_cons, List.all_nil, List.append_nil, List.cons_append, List.nil_append, List.replicate_succ, List.replicate_zero, Option.map_some, Option.map_none, List.nodup_cons, List.nodup_nil, List.not_mem_nil, Bool.and_true, Bool.true_and, Bool.and_self, Bool.not_true, Bool.not_false, if_true, if_false, reduceIte, reduceCtorEq, Nat.reduceAdd, Nat.reduceSub, Nat.reduceBEq, Nat.reduceEqDiff, decide_true, decide_false, and_true, true_and, or_false, false_or, not_false_eq_true, beq_self_eq_true, Bool.false_eq_true, Option.getD_some, Option.getD_none, Option.some.injEq, exists_eq_left', ne_self_iff_false, Nat.zero_add, Nat.reduceLeDiff, Int.reduceNeg, and_self]
  refine lc_of (DL.intsFrom p.1 (p.2 + 1 - p.1).toNat) _ (fun Φ Ξ h => by (try walk_at "dl"); exact h) rfl (by rw [ints_len]; omega) (fun i acc => acc = comm p q i) (by unfold comm; rw [show (min (p.1 + ((0 : Nat) : Int)) (q.2 + 1) - max p.1 q.1).toNat = 0 by omega]; rfl) (fun i x acc hx ha => ?_) (fun acc ha => ?_)
  · subst ha
    obtain ⟨hi, rfl⟩ := ints_at hx
    walk_at "dl"
    refine dIn_of (n := 0) rfl (.int _ _) (fun z hz => by obtain ⟨j, _, rfl⟩ := List.mem_map.mp hz; exact .int _ _) fun b hb => ?_
    rw [ints_mem] at hb
    rw [comm_succ p q i q2]
    cases b with
    | true =>
      walk_at "dl"
      refine ⟨same_of rfl rfl, ?_⟩
      have := hb.mp rfl
      rw [if_pos (by omega)]
    | false =>
      walk_at "dl"
      refine ⟨same_of rfl rfl, ?_⟩
      rw [if_neg (fun z => absurd (hb.mpr (by omega)) (by decide)), List.append_nil]
  · subst ha
    rw [ints_len]
    have cl : ∀ n : Nat, n = (p.2 + 1 - p.1).toNat → (comm p q n).length = (min p.2 q.2 + 1 - max p.1 q.1).toNat := fun n e => by unfold comm; rw [ints_len, e]; omega
    simp only [ds__law_two_s3, dSeq, dNext, dAsg, dgName, dStore, dIfS, dTest_eq, tsD_bl, dOp, dVar, dC, dRet, dRetN, dNever, dBrk, dCnt, dAnd, dOr, dNot, dAndV_eq, dOrV_eq, dNotV_eq, dIf, dNil, dCons, dConsS, dArgs, avD, dCB, dCBO, dInt1_int, dInt2_int, dIntOf_int, dIntOf_bl, dTup, dLst, dFrz, dDrop, dEq_int, dNe_int, dI0_int, dI2_int, dLt_int, dLe_int, dGt_int, dGe_int, dIsN_non, dNotN_non, dIsB_bl, dNotB_bl, isNon_sq, isNon_non, isNon_int, isNon_bl, isNon_str, isNon_tup, isNon_lst, dIx_sq, dIx_tup, dIx_lst, dIx_fl, dIxO, ixO_m, dSetI, dMet, mApp, mPop, mPopAt, mIns, mClear, dPart, dNoPart, dSl_eq, slD_sq, slD_tup, slD_lst, slD_fl, dSlL, dListOf_sq, dListOf_tup, dListOf_lst, dTupOf_sq, dTupOf_tup, dTupOf_lst, dLen_sq, dLen_tup, dLen_lst, dLen_fl, dAdd_int, dAdd_tup, dAdd_lst, dAdd_str, dAddO, dAsgO, dStill, dOpen, dHide, dIsi_ii, dIsi_ib, dIsi_tt, dIsi_ll, dIsi_sq, dIsiT_row, dIsi_bb, dIsi_bi, dIsi_bt, dIsi_it, dIsi_il, dIsi_is, dIsi_nb, dIsi_ni, dIsi_nt, dIsi_nl, dIsi_ti, dIsi_tb, dIsi_tl, dIsi_ts, dIsi_li, dIsi_lb, dIsi_lt, dIsi_ls, dIsi_si, dIsi_sb, dIsi_st, dIsi_ss, dEq_bl, dNe_bl, dInRange, dRgB, dCall_of, dCallO_of, AV.ok, AV.sv, slotsOf, setIo_un, setIo_d, setIo_ol, setIo_op, setIo_ok, setIo_ot, own_un, own_d, own_ol, own_op, own_ok, own_ot, io_un, io_d, io_ol, io_op, io_ok, io_ot, putBack, AV.isSl, dgSeq, dgCons, dgNil, seqOf_sq, seqOf_tup', seqOf_lst, seqOf_fl, dLook, dLookT, lookAll, SV.look, dAugI, dAugL, dRetO, dRetV, dChain_eq, dNeg, dIter_eq, itD_sq, itD_tup, itD_lst, itD_fl, dRng1, dRng2, dRng3, dEnum_eq, enD_one, dZip, start0, dYes, ioAll, wipeS, List.mem_cons, List.not_mem_nil,  dSumA, dMaxA, dMinA, dAllA, dAnyA, dOnA, intsL_ints, blsL_bls, atI_0, atI_1, atI_2, atI_3, ixN_lit0, ixN_lit1, ixN_lit2, ixN_lit3,
  List.getElem?_cons_zero, List.getElem?_cons_succ, List.set_cons_zero, List.set_cons_succ, List.map_cons, List.map_nil, List.length_cons, List.length_nil, List.getD_cons_zero, List.getD_cons_succ, List.mapIdx_cons, List.mapIdx_nil, List.findIdx?_cons, List.findIdx?_nil, List.all_cons, List.all_nil, List.append_nil, List.cons_append, List.nil_append, List.replicate_succ, List.replicate_zero, Option.map_some, Option.map_none, List.nodup_cons, List.nodup_nil, List.not_mem_nil, Bool.and_true, Bool.true_and, Bool.and_self, Bool.not_true, Bool.not_false, if_true, if_false, reduceIte, reduceCtorEq, Nat.reduceAdd, Nat.reduceSub, Nat.reduceBEq, Nat.reduceEqDiff, decide_true, decide_false, and_true, true_and, or_false, false_or, not_false_eq_true, beq_self_eq_true, Bool.false_eq_true, Option.getD_some, Option.getD_none, Option.some.injEq, exists_eq_left', ne_self_iff_false, Nat.zero_add, Nat.reduceLeDiff, Int.reduceNeg, and_self]
    simp only [ds__law_two_s4, dSeq, dNext, dAsg, dgName, dStore, dIfS, dTest_eq, tsD_bl, dOp, dVar, dC, dRet, dRetN, dNever, dBrk, dCnt, dAnd, dOr, dNot, dAndV_eq, dOrV_eq, dNotV_eq, dIf, dNil, dCons, dConsS, dArgs, avD, dCB, dCBO, dInt1_int, dInt2_int, dIntOf_int, dIntOf_bl, dTup, dLst, dFrz, dDrop, dEq_int, dNe_int, dI0_int, dI2_int, dLt_int, dLe_int, dGt_int, dGe_int, dIsN_non, dNotN_non, dIsB_bl, dNotB_bl, isNon_sq, isNon_non, isNon_int, isNon_bl, isNon_str, isNon_tup, isNon_lst, dIx_sq, dIx_tup, dIx_lst, dIx_fl, dIxO, ixO_m, dSetI, dMet, mApp, mPop, mPopAt, mIns, mClear, dPart, dNoPart, dSl_eq, slD_sq, slD_tup, slD_lst, slD_fl, dSlL, dListOf_sq, dListOf_tup, dListOf_lst, dTupOf_sq, dTupOf_tup, dTupOf_lst, dLen_sq, dLen_tup, dLen_lst, dLen_fl, dAdd_int, dAdd_tup, dAdd_lst, dAdd_str, dAddO, dAsgO, dStill, dOpen, dHide, dIsi_ii, dIsi_ib, dIsi_tt, dIsi_ll, dIsi_sq, dIsiT_row, dIsi_bb, dIsi_bi, dIsi_bt, dIsi_it, dIsi_il, dIsi_is, dIsi_nb, dIsi_ni, dIsi_nt, dIsi_nl, dIsi_ti, dIsi_tb, dIsi_tl, dIsi_ts, dIsi_li, dIsi_lb, dIsi_lt, dIsi_ls, dIsi_si, dIsi_sb, dIsi_st, dIsi_ss, dEq_bl, dNe_bl, dInRange, dRgB, dCall_of, dCallO_of, AV.ok, AV.sv, slotsOf, setIo_un, setIo_d, setIo_ol, setIo_op, setIo_ok, setIo_ot, own_un, own_d, own_ol, own_op, own_ok, own_ot, io_un, io_d, io_ol, io_op, io_ok, io_ot, putBack, AV.isSl, dgSeq, dgCons, dgNil, seqOf_sq, seqOf_tup', seqOf_lst, seqOf_fl, dLook, dLookT, lookAll, SV.look, dAugI, dAugL, dRetO, dRetV, dChain_eq, dNeg, dIter_eq, itD_sq, itD_tup, itD_lst, itD_fl, dRng1, dRng2, dRng3, dEnum_eq, enD_one, dZip, start0, dYes, ioAll, wipeS, List.mem_cons, List.not_mem_nil,  dSumA, dMaxA, dMinA, dAllA, dAnyA, dOnA, intsL_ints, blsL_bls, atI_0, atI_1, atI_2, atI_3, ixN_lit0, ixN_lit1, ixN_lit2, ixN_lit3,
  List.getElem?_cons_zero, List.getElem?_cons_succ, List.set_cons_zero, List.set_cons_succ, List.map_cons, List.map_nil, List.length_cons, List.length_nil, List.getD_cons_zero, List.getD_cons_succ, List.mapIdx_cons, List.mapIdx_nil, List.findIdx?_cons, List.findIdx?_nil, List.all_cons, List.all_nil, List.append_nil, List.cons_append, List.nil_append, List.replicate_succ, List.replicate_zero, Option.map_some, Option.map_none, List.nodup_cons, List.nodup_nil, List.not_mem_nil, Bool.and_true, Bool.true_and, Bool.and_self, Bool.not_true, Bool.not_false, if_true, if_false, reduceIte, reduceCtorEq, Nat.reduceAdd, Nat.reduceSub, Nat.reduceBEq, Nat.reduceEqDiff, decide_true, decide_false, and_true, true_and, or_false, false_or, not_false_eq_true, beq_self_eq_true, Bool.false_eq_true, Option.getD_some, Option.getD_none, Option.some.injEq, exists_eq_left', ne_self_iff_false, Nat.zero_add, Nat.reduceLeDiff, Int.reduceNeg, and_self]
    rw [cl _ rfl, ints_len]
    have ew : decide ((((min p.2 q.2 + 1 - max p.1 q.1).toNat : Nat) : Int) = (((p.2 + 1 - p.1).toNat : Nat) : Int)) = (decide (q.1 ≤ p.1) && decide (p.2 ≤ q.2)) := by
      rw [← Bool.decide_and]
      exact decide_eq_decide.mpr ⟨fun z => by omega, fun z => by omega⟩
    rw [ew]
    have fin : ∀ (part : D) (i j : Bool), part = (if max p.1 q.1 ≤ min p.2 q.2 then pr true (max p.1 q.1, min p.2 q.2) else .non) → ds__law_two_s8 { nx := fun ρ' => Ret 3 ret D.non ρ', rt := fun d ρ' => Ret 3 ret d ρ', ex := RetX 3 exc } [SV.d (pr true p), .d (pr true q), .d (.int w), .d (DL.intsFrom p.1 (p.2 + 1 - p.1).toNat |> D.lst), .d (DL.intsFrom q.1 (q.2 + 1 - q.1).toNat |> D.lst), .d (.lst (comm p q (p.2 + 1 - p.1).toNat)), .d (.bl (decide (q.1 ≤ p.1) && decide (p.2 ≤ q.2))), .d part, .d (pr i p), .d (pr j q), .un, .un, .un] := by
      intro part i j e
      simp only [ds__law_two_s8, dSeq, dNext, dAsg, dgName, dStore, dIfS, dTest_eq, tsD_bl, dOp, dVar, dC, dRet, dRetN, dNever, dBrk, dCnt, dAnd, dOr, dNot, dAndV_eq, dOrV_eq, dNotV_eq, dIf, dNil, dCons, dConsS, dArgs, avD, dCB, dCBO, dInt1_int, dInt2_int, dIntOf_int, dIntOf_bl, dTup, dLst, dFrz, dDrop, dEq_int, dNe_int, dI0_int, dI2_int, dLt_int, dLe_int, dGt_int, dGe_int, dIsN_non, dNotN_non, dIsB_bl, dNotB_bl, isNon_sq, isNon_non, isNon_int, isNon_bl, isNon_str, isNon_tup, isNon_lst, dIx_sq, dIx_tup, dIx_lst, dIx_fl, dIxO, ixO_m, dSetI, dMet, mApp, mPop, mPopAt, mIns, mClear, dPart, dNoPart, dSl_eq, slD_sq, slD_tup, slD_lst, slD_fl, dSlL, dListOf_sq, dListOf_tup, dListOf_lst, dTupOf_sq, dTupOf_tup, dTupOf_lst, dLen_sq, dLen_tup, dLen_lst, dLen_fl, dAdd_int, dAdd_tup, dAdd_lst, dAdd_str, dAddO, dAsgO, dStill, dOpen, dHide, dIsi_ii, dIsi_ib, dIsi_tt, dIsi_ll, dIsi_sq, dIsiT_row, dIsi_bb, dIsi_bi, dIsi_bt, dIsi_it, dIsi_il, dIsi_is, dIsi_nb, dIsi_ni, dIsi_nt, dIsi_nl, dIsi_ti, dIsi_tb, dIsi_tl, dIsi_ts, dIsi_li, dIsi_lb, dIsi_lt, dIsi_ls, dIsi_si, dIsi_sb, dIsi_st, dIsi_ss, dEq_bl, dNe_bl, dInRange, dRgB, dCall_of, dCallO_of, AV.ok, AV.sv, slotsOf, setIo_un, setIo_d, setIo_ol, setIo_op, setIo_ok, setIo_ot, own_un, own_d, own_ol, own_op, own_ok, own_ot, io_un, io_d, io_ol, io_op, io_ok, io_ot, putBack, AV.isSl, dgSeq, dgCons, dgNil, seqOf_sq, seqOf_tup', seqOf_lst, seqOf_fl, dLook, dLookT, lookAll, SV.look, dAugI, dAugL, dRetO, dRetV, dChain_eq, dNeg, dIter_eq, itD_sq, itD_tup, itD_lst, itD_fl, dRng1, dRng2, dRng3, dEnum_eq, enD_one, dZip, start0, dYes, ioAll, wipeS, List.mem_cons, List.not_mem_nil,  dSumA, dMaxA, dMinA, dAllA, dAnyA, dOnA, intsL_ints, blsL_bls, atI_0, atI_1, atI_2, atI_3, ixN_lit0, ixN_lit1, ixN_lit2, ixN_lit3,
  List.getElem?_cons_zero, List.getElem?_cons_succ, List.set_cons_zero, List.set_cons_succ, List.map_cons, List.map_nil, List.length_cons, List.length_nil, List.getD_cons_zero, List.getD_cons_succ, List.mapIdx_cons, List.mapIdx_nil, List.findIdx?_cons, List.findIdx?_nil, List.all_cons, List.all_nil, List.append_nil, List.cons_append, List.nil_append, List.replicate_succ, List.replicate_zero, Option.map_some, Option.map_none, List.nodup_cons, List.nodup_nil, List.not_mem_nil, Bool.and_true, Bool.true_and, Bool.and_self, Bool.not_true, Bool.not_false, if_true, if_false, reduceIte, reduceCtorEq, Nat.reduceAdd, Nat.reduceSub, Nat.reduceBEq, Nat.reduceEqDiff, decide_true, decide_false, and_true, true_and, or_false, false_or, not_false_eq_true, beq_self_eq_true, Bool.false_eq_true, Option.getD_some, Option.getD_none, Option.some.injEq, exists_eq_left', ne_self_iff_false, Nat.zero_add, Nat.reduceLeDiff, Int.reduceNeg, and_self]
      refine ⟨i, j, p, q, rfl, ?_⟩
      simp only [ds__law_two_s9, dSeq, dNext, dAsg, dgName, dStore, dIfS, dTest_eq, tsD_bl, dOp, dVar, dC, dRet, dRetN, dNever, dBrk, dCnt, dAnd, dOr, dNot, dAndV_eq, dOrV_eq, dNotV_eq, dIf, dNil, dCons, dConsS, dArgs, avD, dCB, dCBO, dInt1_int, dInt2_int, dIntOf_int, dIntOf_bl, dTup, dLst, dFrz, dDrop, dEq_int, dNe_int, dI0_int, dI2_int, dLt_int, dLe_int, dGt_int, dGe_int, dIsN_non, dNotN_non, dIsB_bl, dNotB_bl, isNon_sq, isNon_non, isNon_int, isNon_bl, isNon_str, isNon_tup, isNon_lst, dIx_sq, dIx_tup, dIx_lst, dIx_fl, dIxO, ixO_m, dSetI, dMet, mApp, mPop, mPopAt, mIns, mClear, dPart, dNoPart, dSl_eq, slD_sq, slD_tup, slD_lst, slD_fl, dSlL, dListOf_sq, dListOf_tup, dListOf_lst, dTupOf_sq, dTupOf_tup, dTupOf_lst, dLen_sq, dLen_tup, dLen_lst, dLen_fl, dAdd_int, dAdd_tup, dAdd_lst, dAdd_str, dAddO, dAsgO, dStill, dOpen, dHide, dIsi_ii, dIsi_ib, dIsi_tt, dIsi_ll, dIsi_sq, dIsiT_row, dIsi_bb, dIsi_bi, dIsi_bt, dIsi_it, dIsi_il, dIsi_is, dIsi_nb, dIsi_ni, dIsi_nt, dIsi_nl, dIsi_ti, dIsi_tb, dIsi_tl, dIsi_ts, dIsi_li, dIsi_lb, dIsi_lt, dIsi_ls, dIsi_si, dIsi_sb, dIsi_st, dIsi_ss, dEq_bl, dNe_bl, dInRange, dRgB, dCall_of, dCallO_of, AV.ok, AV.sv, slotsOf, setIo_un, setIo_d, setIo_ol, setIo_op, setIo_ok, setIo_ot, own_un, own_d, own_ol, own_op, own_ok, own_ot, io_un, io_d, io_ol, io_op, io_ok, io_ot, putBack, AV.isSl, dgSeq, dgCons, dgNil, seqOf_sq, seqOf_tup', seqOf_lst, seqOf_fl, dLook, dLookT, lookAll, SV.look, dAugI, dAugL, dRetO, dRetV, dChain_eq, dNeg, dIter_eq, itD_sq, itD_tup, itD_lst, itD_fl, dRng1, dRng2, dRng3, dEnum_eq, enD_one, dZip, start0, dYes, ioAll, wipeS, List.mem_cons, List.not_mem_nil,  dSumA, dMaxA, dMinA, dAllA, dAnyA, dOnA, intsL_ints, blsL_bls, atI_0, atI_1, atI_2, atI_3, ixN_lit0, ixN_lit1, ixN_lit2, ixN_lit3,
  List.getElem?_cons_zero, List.getElem?_cons_succ, List.set_cons_zero, List.set_cons_succ, List.map_cons, List.map_nil, List.length_cons, List.length_nil, List.getD_cons_zero, List.getD_cons_succ, List.mapIdx_cons, List.mapIdx_nil, List.findIdx?_cons, List.findIdx?_nil, List.all_cons, List.all_nil, List.append_nil, List.cons_append, List.nil_append, List.replicate_succ, List.replicate_zero, Option.map_some, Option.map_none, List.nodup_cons, List.nodup_nil, List.not_mem_nil, Bool.and_true, Bool.true_and, Bool.and_self, Bool.not_true, Bool.not_false, if_true, if_false, reduceIte, reduceCtorEq, Nat.reduceAdd, Nat.reduceSub, Nat.reduceBEq, Nat.reduceEqDiff, decide_true, decide_false, and_true, true_and, or_false, false_or, not_false_eq_true, beq_self_eq_true, Bool.false_eq_true, Option.getD_some, Option.getD_none, Option.some.injEq, exists_eq_left', ne_self_iff_false, Nat.zero_add, Nat.reduceLeDiff, Int.reduceNeg, and_self]
      refine ⟨i, j, p, q, rfl, ?_⟩
      simp only [ds__law_two_s10, dSeq, dNext, dAsg, dgName, dStore, dIfS, dTest_eq, tsD_bl, dOp, dVar, dC, dRet, dRetN, dNever, dBrk, dCnt, dAnd, dOr, dNot, dAndV_eq, dOrV_eq, dNotV_eq, dIf, dNil, dCons, dConsS, dArgs, avD, dCB, dCBO, dInt1_int, dInt2_int, dIntOf_int, dIntOf_bl, dTup, dLst, dFrz, dDrop, dEq_int, dNe_int, dI0_int, dI2_int, dLt_int, dLe_int, dGt_int, dGe_int, dIsN_non, dNotN_non, dIsB_bl, dNotB_bl, isNon_sq, isNon_non, isNon_int, isNon_bl, isNon_str, isNon_tup, isNon_lst, dIx_sq, dIx_tup, dIx_lst, dIx_fl, dIxO, ixO_m, dSetI, dMet, mApp, mPop, mPopAt, mIns, mClear, dPart, dNoPart, dSl_eq, slD_sq, slD_tup, slD_lst, slD_fl, dSlL, dListOf_sq, dListOf_tup, dListOf_lst, dTupOf_sq, dTupOf_tup, dTupOf_lst, dLen_sq, dLen_tup, dLen_lst, dLen_fl, dAdd_int, dAdd_tup, dAdd_lst, dAdd_str, dAddO, dAsgO, dStill, dOpen, dHide, dIsi_ii, dIsi_ib, dIsi_tt, dIsi_ll, dIsi_sq, dIsiT_row, dIsi_bb, dIsi_bi, dIsi_bt, dIsi_it, dIsi_il, dIsi_is, dIsi_nb, dIsi_ni, dIsi_nt, dIsi_nl, dIsi_ti, dIsi_tb, dIsi_tl, dIsi_ts, dIsi_li, dIsi_lb, dIsi_lt, dIsi_ls, dIsi_si, dIsi_sb, dIsi_st, dIsi_ss, dEq_bl, dNe_bl, dInRange, dRgB, dCall_of, dCallO_of, AV.ok, AV.sv, slotsOf, setIo_un, setIo_d, setIo_ol, setIo_op, setIo_ok, setIo_ot, own_un, own_d, own_ol, own_op, own_ok, own_ot, io_un, io_d, io_ol, io_op, io_ok, io_ot, putBack, AV.isSl, dgSeq, dgCons, dgNil, seqOf_sq, seqOf_tup', seqOf_lst, seqOf_fl, dLook, dLookT, lookAll, SV.look, dAugI, dAugL, dRetO, dRetV, dChain_eq, dNeg, dIter_eq, itD_sq, itD_tup, itD_lst, itD_fl, dRng1, dRng2, dRng3, dEnum_eq, enD_one, dZip, start0, dYes, ioAll, wipeS, List.mem_cons, List.not_mem_nil,  dSumA, dMaxA, dMinA, dAllA, dAnyA, dOnA, intsL_ints, blsL_bls, atI_0, atI_1, atI_2, atI_3, ixN_lit0, ixN_lit1, ixN_lit2, ixN_lit3,
  List.getElem?_cons_zero, List.getElem?_cons_succ, List.set_cons_zero, List.set_cons_succ, List.map_cons, List.map_nil, List.length_cons, List.length_nil, List.getD_cons_zero, List.getD_cons_succ, List.mapIdx_cons, List.mapIdx_nil, List.findIdx?_cons, List.findIdx?_nil, List.all_cons, List.all_nil, List.append_nil, List.cons_append, List.nil_append, List.replicate_succ, List.replicate_zero, Option.map_some, Option.map_none, List.nodup_cons, List.nodup_nil, List.not_mem_nil, Bool.and_true, Bool.true_and, Bool.and_self, Bool.not_true, Bool.not_false, if_true, if_false, reduceIte, reduceCtorEq, Nat.reduceAdd, Nat.reduceSub, Nat.reduceBEq, Nat.reduceEqDiff, decide_true, decide_false, and_true, true_and, or_false, false_or, not_false_eq_true, beq_self_eq_true, Bool.false_eq_true, Option.getD_some, Option.getD_none, Option.some.injEq, exists_eq_left', ne_self_iff_false, Nat.zero_add, Nat.reduceLeDiff, Int.reduceNeg, and_self]
      have e3 : decide ((0 : Int) < ((comm p q (p.2 + 1 - p.1).toNat).length : Nat)) = decide (max p.1 q.1 ≤ min p.2 q.2) := by
        rw [cl _ rfl]
        exact decide_eq_decide.mpr ⟨fun z => by omega, fun z => by omega⟩
      rw [e3]
      walk_at "dl"
      simp only [ds__law_two_s11, dSeq, dNext, dAsg, dgName, dStore, dIfS, dTest_eq, tsD_bl, dOp, dVar, dC, dRet, dRetN, dNever, dBrk, dCnt, dAnd, dOr, dNot, dAndV_eq, dOrV_eq, dNotV_eq, dIf, dNil, dCons, dConsS, dArgs, avD, dCB, dCBO, dInt1_int, dInt2_int, dIntOf_int, dIntOf_bl, dTup, dLst, dFrz, dDrop, dEq_int, dNe_int, dI0_int, dI2_int, dLt_int, dLe_int, dGt_int, dGe_int, dIsN_non, dNotN_non, dIsB_bl, dNotB_bl, isNon_sq, isNon_non, isNon_int, isNon_bl, isNon_str, isNon_tup, isNon_lst, dIx_sq, dIx_tup, dIx_lst, dIx_fl, dIxO, ixO_m, dSetI, dMet, mApp, mPop, mPopAt, mIns, mClear, dPart, dNoPart, dSl_eq, slD_sq, slD_tup, slD_lst, slD_fl, dSlL, dListOf_sq, dListOf_tup, dListOf_lst, dTupOf_sq, dTupOf_tup, dTupOf_lst, dLen_sq, dLen_tup, dLen_lst, dLen_fl, dAdd_int, dAdd_tup, dAdd_lst, dAdd_str, dAddO, dAsgO, dStill, dOpen, dHide, dIsi_ii, dIsi_ib, dIsi_tt, dIsi_ll, dIsi_sq, dIsiT_row, dIsi_bb, dIsi_bi, dIsi_bt, dIsi_it, dIsi_il, dIsi_is, dIsi_nb, dIsi_ni, dIsi_nt, dIsi_nl, dIsi_ti, dIsi_tb, dIsi_tl, dIsi_ts, dIsi_li, dIsi_lb, dIsi_lt, dIsi_ls, dIsi_si, dIsi_sb, dIsi_st, dIsi_ss, dEq_bl, dNe_bl, dInRange, dRgB, dCall_of, dCallO_of, AV.ok, AV.sv, slotsOf, setIo_un, setIo_d, setIo_ol, setIo_op, setIo_ok, setIo_ot, own_un, own_d, own_ol, own_op, own_ok, own_ot, io_un, io_d, io_ol, io_op, io_ok, io_ot, putBack, AV.isSl, dgSeq, dgCons, dgNil, seqOf_sq, seqOf_tup', seqOf_lst, seqOf_fl, dLook, dLookT, lookAll, SV.look, dAugI, dAugL, dRetO, dRetV, dChain_eq, dNeg, dIter_eq, itD_sq, itD_tup, itD_lst, itD_fl, dRng1, dRng2, dRng3, dEnum_eq, enD_one, dZip, start0, dYes, ioAll, wipeS, List.mem_cons, List.not_mem_nil,  dSumA, dMaxA, dMinA, dAllA, dAnyA, dOnA, intsL_ints, blsL_bls, atI_0, atI_1, atI_2, atI_3, ixN_lit0, ixN_lit1, ixN_lit2, ixN_lit3,
  List.getElem?_cons_zero, List.getElem?_cons_succ, List.set_cons_zero, List.set_cons_succ, List.map_cons, List.map_nil, List.length_cons, List.length_nil, List.getD_cons_zero, List.getD_cons_succ, List.mapIdx_cons, List.mapIdx_nil, List.findIdx?_cons, List.findIdx?_nil, List.all_cons, List.all_nil, List.append_nil, List.cons_append, List.nil_append, List.replicate_succ, List.replicate_zero, Option.map_some, Option.map_none, List.nodup_cons, List.nodup_nil, List.not_mem_nil, Bool.and_true, Bool.true_and, Bool.and_self, Bool.not_true, Bool.not_false, if_true, if_false, reduceIte, reduceCtorEq, Nat.reduceAdd, Nat.reduceSub, Nat.reduceBEq, Nat.reduceEqDiff, decide_true, decide_false, and_true, true_and, or_false, false_or, not_false_eq_true, beq_self_eq_true, Bool.false_eq_true, Option.getD_some, Option.getD_none, Option.some.injEq, exists_eq_left', ne_self_iff_false, Nat.zero_add, Nat.reduceLeDiff, Int.reduceNeg, and_self]
      refine ⟨i, j, p, q, rfl, ?_⟩
      walk_at "dl"
      refine ⟨part, by rw [e], by rw [e]; split; exact .inr ⟨_, rfl⟩; exact .inl rfl, ?_⟩
      walk_at "dl"
      simp only [ds__law_two_s12, pr, dSeq, dNext, dAsg, dgName, dStore, dIfS, dTest_eq, tsD_bl, dOp, dVar, dC, dRet, dRetN, dNever, dBrk, dCnt, dAnd, dOr, dNot, dAndV_eq, dOrV_eq, dNotV_eq, dIf, dNil, dCons, dConsS, dArgs, avD, dCB, dCBO, dInt1_int, dInt2_int, dIntOf_int, dIntOf_bl, dTup, dLst, dFrz, dDrop, dEq_int, dNe_int, dI0_int, dI2_int, dLt_int, dLe_int, dGt_int, dGe_int, dIsN_non, dNotN_non, dIsB_bl, dNotB_bl, isNon_sq, isNon_non, isNon_int, isNon_bl, isNon_str, isNon_tup, isNon_lst, dIx_sq, dIx_tup, dIx_lst, dIx_fl, dIxO, ixO_m, dSetI, dMet, mApp, mPop, mPopAt, mIns, mClear, dPart, dNoPart, dSl_eq, slD_sq, slD_tup, slD_lst, slD_fl, dSlL, dListOf_sq, dListOf_tup, dListOf_lst, dTupOf_sq, dTupOf_tup, dTupOf_lst, dLen_sq, dLen_tup, dLen_lst, dLen_fl, dAdd_int, dAdd_tup, dAdd_lst, dAdd_str, dAddO, dAsgO, dStill, dOpen, dHide, dIsi_ii, dIsi_ib, dIsi_tt, dIsi_ll, dIsi_sq, dIsiT_row, dIsi_bb, dIsi_bi, dIsi_bt, dIsi_it, dIsi_il, dIsi_is, dIsi_nb, dIsi_ni, dIsi_nt, dIsi_nl, dIsi_ti, dIsi_tb, dIsi_tl, dIsi_ts, dIsi_li, dIsi_lb, dIsi_lt, dIsi_ls, dIsi_si, dIsi_sb, dIsi_st, dIsi_ss, dEq_bl, dNe_bl, dInRange, dRgB, dCall_of, dCallO_of, AV.ok, AV.sv, slotsOf, setIo_un, setIo_d, setIo_ol, setIo_op, setIo_ok, setIo_ot, own_un, own_d, own_ol, own_op, own_ok, own_ot, io_un, io_d, io_ol, io_op, io_ok, io_ot, putBack, AV.isSl, dgSeq, dgCons, dgNil, seqOf_sq, seqOf_tup', seqOf_lst, seqOf_fl, dLook, dLookT, lookAll, SV.look, dAugI, dAugL, dRetO, dRetV, dChain_eq, dNeg, dIter_eq, itD_sq, itD_tup, itD_lst, itD_fl, dRng1, dRng2, dRng3, dEnum_eq, enD_one, dZip, start0, dYes, ioAll, wipeS, List.mem_cons, List.not_mem_nil,  dSumA, dMaxA, dMinA, dAllA, dAnyA, dOnA, intsL_ints, blsL_bls, atI_0, atI_1, atI_2, atI_3, ixN_lit0, ixN_lit1, ixN_lit2, ixN_lit3,
  List.getElem?_cons_zero, List.getElem?_cons_succ, List.set_cons_zero, List.set_cons_succ, List.map_cons, List.map_nil, List.length_cons, List.length_nil, List.getD_cons_zero, List.getD_cons_succ, List.mapIdx_cons, List.mapIdx_nil, List.findIdx?_cons, List.findIdx?_nil, List.all_cons, List.all_nil, List.append_nil, List.cons_append, List.nil_append, List.replicate_succ, List.replicate_zero, Option.map_some, Option.map_none, List.nodup_cons, List.nodup_nil, List.not_mem_nil, Bool.and_true, Bool.true_and, Bool.and_self, Bool.not_true, Bool.not_false, if_true, if_false, reduceIte, reduceCtorEq, Nat.reduceAdd, Nat.reduceSub, Nat.reduceBEq, Nat.reduceEqDiff, decide_true, decide_false, and_true, true_and, or_false, false_or, not_false_eq_true, beq_self_eq_true, Bool.false_eq_true, Option.getD_some, Option.getD_none, Option.some.injEq, exists_eq_left', ne_self_iff_false, Nat.zero_add, Nat.reduceLeDiff, Int.reduceNeg, and_self]
      refine dEq_of (n := 1) (.lst (Pl.all2 (.int _ _) (.int _ _))) (.lst (Pl.all2 (.int _ _) (.int _ _))) fun b hb => ?_
      rw [hb.mpr rfl]
      walk_at "dl"
      refine dEq_of (n := 1) (.lst (Pl.all2 (.int _ _) (.int _ _))) (.lst (Pl.all2 (.int _ _) (.int _ _))) fun b hb => ?_
      rw [hb.mpr rfl]
      exact Ret.same h rfl
    have tail : ∀ (part : D), part = (if max p.1 q.1 ≤ min p.2 q.2 then pr true (max p.1 q.1, min p.2 q.2) else .non) → ds__law_two_s6 { nx := fun ρ' => Ret 3 ret D.non ρ', rt := fun d ρ' => Ret 3 ret d ρ', ex := RetX 3 exc } [SV.d (pr true p), .d (pr true q), .d (.int w), .d (DL.intsFrom p.1 (p.2 + 1 - p.1).toNat |> D.lst), .d (DL.intsFrom q.1 (q.2 + 1 - q.1).toNat |> D.lst), .d (.lst (comm p q (p.2 + 1 - p.1).toNat)), .d (.bl (decide (q.1 ≤ p.1) && decide (p.2 ≤ q.2))), .d part, .un, .un, .un, .un, .un] := by
      intro part e
      simp only [ds__law_two_s6, pr, sq_t, dSeq, dNext, dAsg, dgName, dStore, dIfS, dTest_eq, tsD_bl, dOp, dVar, dC, dRet, dRetN, dNever, dBrk, dCnt, dAnd, dOr, dNot, dAndV_eq, dOrV_eq, dNotV_eq, dIf, dNil, dCons, dConsS, dArgs, avD, dCB, dCBO, dInt1_int, dInt2_int, dIntOf_int, dIntOf_bl, dTup, dLst, dFrz, dDrop, dEq_int, dNe_int, dI0_int, dI2_int, dLt_int, dLe_int, dGt_int, dGe_int, dIsN_non, dNotN_non, dIsB_bl, dNotB_bl, isNon_sq, isNon_non, isNon_int, isNon_bl, isNon_str, isNon_tup, isNon_lst, dIx_sq, dIx_tup, dIx_lst, dIx_fl, dIxO, ixO_m, dSetI, dMet, mApp, mPop, mPopAt, mIns, mClear, dPart, dNoPart, dSl_eq, slD_sq, slD_tup, slD_lst, slD_fl, dSlL, dListOf_sq, dListOf_tup, dListOf_lst, dTupOf_sq, dTupOf_tup, dTupOf_lst, dLen_sq, dLen_tup, dLen_lst, dLen_fl, dAdd_int, dAdd_tup, dAdd_lst, dAdd_str, dAddO, dAsgO, dStill, dOpen, dHide, dIsi_ii, dIsi_ib, dIsi_tt, dIsi_ll, dIsi_sq, dIsiT_row, dIsi_bb, dIsi_bi, dIsi_bt, dIsi_it, dIsi_il, dIsi_is, dIsi_nb, dIsi_ni, dIsi_nt, dIsi_nl, dIsi_ti, dIsi_tb, dIsi_tl, dIsi_ts, dIsi_li, dIsi_lb, dIsi_lt, dIsi_ls, dIsi_si, dIsi_sb, dIsi_st, dIsi_ss, dEq_bl, dNe_bl, dInRange, dRgB, dCall_of, dCallO_of, AV.ok, AV.sv, slotsOf, setIo_un, setIo_d, setIo_ol, setIo_op, setIo_ok, setIo_ot, own_un, own_d, own_ol, own_op, own_ok, own_ot, io_un, io_d, io_ol, io_op, io_ok, io_ot, putBack, AV.isSl, dgSeq, dgCons, dgNil, seqOf_sq, seqOf_tup', seqOf_lst, seqOf_fl, dLook, dLookT, lookAll, SV.look, dAugI, dAugL, dRetO, dRetV, dChain_eq, dNeg, dIter_eq, itD_sq, itD_tup, itD_lst, itD_fl, dRng1, dRng2, dRng3, dEnum_eq, enD_one, dZip, start0, dYes, ioAll, wipeS, List.mem_cons, List.not_mem_nil,  dSumA, dMaxA, dMinA, dAllA, dAnyA, dOnA, intsL_ints, blsL_bls, atI_0, atI_1, atI_2, atI_3, ixN_lit0, ixN_lit1, ixN_lit2, ixN_lit3,
  List.getElem?_cons_zero, List.getElem?_cons_succ, List.set_cons_zero, List.set_cons_succ, List.map_cons, List.map_nil, List.length_cons, List.length_nil, List.getD_cons_zero, List.getD_cons_succ, List.mapIdx_cons, List.mapIdx_nil, List.findIdx?_cons, List.findIdx?_nil, List.all_cons, List.all_nil, List.append_nil, List.cons_append, List.nil_append, List.replicate_succ, List.replicate_zero, Option.map_some, Option.map_none, List.nodup_cons, List.nodup_nil, List.not_mem_nil, Bool.and_true, Bool.true_and, Bool.and_self, Bool.not_true, Bool.not_false, if_true, if_false, reduceIte, reduceCtorEq, Nat.reduceAdd, Nat.reduceSub, Nat.reduceBEq, Nat.reduceEqDiff, decide_true, decide_false, and_true, true_and, or_false, false_or, not_false_eq_true, beq_self_eq_true, Bool.false_eq_true, Option.getD_some, Option.getD_none, Option.some.injEq, exists_eq_left', ne_self_iff_false, Nat.zero_add, Nat.reduceLeDiff, Int.reduceNeg, and_self]
      have second : ∀ i : Bool, ds__law_two_s7 { nx := fun ρ' => Ret 3 ret D.non ρ', rt := fun d ρ' => Ret 3 ret d ρ', ex := RetX 3 exc } [SV.d (pr true p), .d (pr true q), .d (.int w), .d (DL.intsFrom p.1 (p.2 + 1 - p.1).toNat |> D.lst), .d (DL.intsFrom q.1 (q.2 + 1 - q.1).toNat |> D.lst), .d (.lst (comm p q (p.2 + 1 - p.1).toNat)), .d (.bl (decide (q.1 ≤ p.1) && decide (p.2 ≤ q.2))), .d part, .d (pr i p), .un, .un, .un, .un] := by
        intro i
        simp only [ds__law_two_s7, pr, sq_t, dSeq, dNext, dAsg, dgName, dStore, dIfS, dTest_eq, tsD_bl, dOp, dVar, dC, dRet, dRetN, dNever, dBrk, dCnt, dAnd, dOr, dNot, dAndV_eq, dOrV_eq, dNotV_eq, dIf, dNil, dCons, dConsS, dArgs, avD, dCB, dCBO, dInt1_int, dInt2_int, dIntOf_int, dIntOf_bl, dTup, dLst, dFrz, dDrop, dEq_int, dNe_int, dI0_int, dI2_int, dLt_int, dLe_int, dGt_int, dGe_int, dIsN_non, dNotN_non, dIsB_bl, dNotB_bl, isNon_sq, isNon_non, isNon_int, isNon_bl, isNon_str, isNon_tup, isNon_lst, dIx_sq, dIx_tup, dIx_lst, dIx_fl, dIxO, ixO_m, dSetI, dMet, mApp, mPop, mPopAt, mIns, mClear, dPart, dNoPart, dSl_eq, slD_sq, slD_tup, slD_lst, slD_fl, dSlL, dListOf_sq, dListOf_tup, dListOf_lst, dTupOf_sq, dTupOf_tup, dTupOf_lst, dLen_sq, dLen_tup, dLen_lst, dLen_fl, dAdd_int, dAdd_tup, dAdd_lst, dAdd_str, dAddO, dAsgO, dStill, dOpen, dHide, dIsi_ii, dIsi_ib, dIsi_tt, dIsi_ll, dIsi_sq, dIsiT_row, dIsi_bb, dIsi_bi, dIsi_bt, dIsi_it, dIsi_il, dIsi_is, dIsi_nb, dIsi_ni, dIsi_nt, dIsi_nl, dIsi_ti, dIsi_tb, dIsi_tl, dIsi_ts, dIsi_li, dIsi_lb, dIsi_lt, dIsi_ls, dIsi_si, dIsi_sb, dIsi_st, dIsi_ss, dEq_bl, dNe_bl, dInRange, dRgB, dCall_of, dCallO_of, AV.ok, AV.sv, slotsOf, setIo_un, setIo_d, setIo_ol, setIo_op, setIo_ok, setIo_ot, own_un, own_d, own_ol, own_op, own_ok, own_ot, io_un, io_d, io_ol, io_op, io_ok, io_ot, putBack, AV.isSl, dgSeq, dgCons, dgNil, seqOf_sq, seqOf_tup', seqOf_lst, seqOf_fl, dLook, dLookT, lookAll, SV.look, dAugI, dAugL, dRetO, dRetV, dChain_eq, dNeg, dIter_eq, itD_sq, itD_tup, itD_lst, itD_fl, dRng1, dRng2, dRng3, dEnum_eq, enD_one, dZip, start0, dYes, ioAll, wipeS, List.mem_cons, List.not_mem_nil,  dSumA, dMaxA, dMinA, dAllA, dAnyA, dOnA, intsL_ints, blsL_bls, atI_0, atI_1, atI_2, atI_3, ixN_lit0, ixN_lit1, ixN_lit2, ixN_lit3,
  List.getElem?_cons_zero, List.getElem?_cons_succ, List.set_cons_zero, List.set_cons_succ, List.map_cons, List.map_nil, List.length_cons, List.length_nil, List.getD_cons_zero, List.getD_cons_succ, List.mapIdx_cons, List.mapIdx_nil, List.findIdx?_cons, List.findIdx?_nil, List.all_cons, List.all_nil, List.append_nil, List.cons_append, List.nil_append, List.replicate_succ, List.replicate_zero, Option.map_some, Option.map_none, List.nodup_cons, List.nodup_nil, List.not_mem_nil, Bool.and_true, Bool.true_and, Bool.and_self, Bool.not_true, Bool.not_false, if_true, if_false, reduceIte, reduceCtorEq, Nat.reduceAdd, Nat.reduceSub, Nat.reduceBEq, Nat.reduceEqDiff, decide_true, decide_false, and_true, true_and, or_false, false_or, not_false_eq_true, beq_self_eq_true, Bool.false_eq_true, Option.getD_some, Option.getD_none, Option.some.injEq, exists_eq_left', ne_self_iff_false, Nat.zero_add, Nat.reduceLeDiff, Int.reduceNeg, and_self]
        refine ⟨⟨by decide, by decide⟩, ?_⟩
        rcases (show w / 2 = 0 ∨ w / 2 = 1 by omega) with e0 | e0 <;> rw [e0]
        · exact ⟨_, atI_0 _ _, fin part i false e⟩
        · exact ⟨_, atI_1 _ _ _, fin part i true e⟩
      refine ⟨by decide, ?_⟩
      rcases (show w % 2 = 0 ∨ w % 2 = 1 by omega) with e0 | e0 <;> rw [e0]
      · exact ⟨_, atI_0 _ _, second false⟩
      · exact ⟨_, atI_1 _ _ _, second true⟩
    simp only [ds__law_two_s5, dSeq, dNext, dAsg, dgName, dStore, dIfS, dTest_eq, tsD_bl, dOp, dVar, dC, dRet, dRetN, dNever, dBrk, dCnt, dAnd, dOr, dNot, dAndV_eq, dOrV_eq, dNotV_eq, dIf, dNil, dCons, dConsS, dArgs, avD, dCB, dCBO, dInt1_int, dInt2_int, dIntOf_int, dIntOf_bl, dTup, dLst, dFrz, dDrop, dEq_int, dNe_int, dI0_int, dI2_int, dLt_int, dLe_int, dGt_int, dGe_int, dIsN_non, dNotN_non, dIsB_bl, dNotB_bl, isNon_sq, isNon_non, isNon_int, isNon_bl, isNon_str, isNon_tup, isNon_lst, dIx_sq, dIx_tup, dIx_lst, dIx_fl, dIxO, ixO_m, dSetI, dMet, mApp, mPop, mPopAt, mIns, mClear, dPart, dNoPart, dSl_eq, slD_sq, slD_tup, slD_lst, slD_fl, dSlL, dListOf_sq, dListOf_tup, dListOf_lst, dTupOf_sq, dTupOf_tup, dTupOf_lst, dLen_sq, dLen_tup, dLen_lst, dLen_fl, dAdd_int, dAdd_tup, dAdd_lst, dAdd_str, dAddO, dAsgO, dStill, dOpen, dHide, dIsi_ii, dIsi_ib, dIsi_tt, dIsi_ll, dIsi_sq, dIsiT_row, dIsi_bb, dIsi_bi, dIsi_bt, dIsi_it, dIsi_il, dIsi_is, dIsi_nb, dIsi_ni, dIsi_nt, dIsi_nl, dIsi_ti, dIsi_tb, dIsi_tl, dIsi_ts, dIsi_li, dIsi_lb, dIsi_lt, dIsi_ls, dIsi_si, dIsi_sb, dIsi_st, dIsi_ss, dEq_bl, dNe_bl, dInRange, dRgB, dCall_of, dCallO_of, AV.ok, AV.sv, slotsOf, setIo_un, setIo_d, setIo_ol, setIo_op, setIo_ok, setIo_ot, own_un, own_d, own_ol, own_op, own_ok, own_ot, io_un, io_d, io_ol, io_op, io_ok, io_ot, putBack, AV.isSl, dgSeq, dgCons, dgNil, seqOf_sq, seqOf_tup', seqOf_lst, seqOf_fl, dLook, dLookT, lookAll, SV.look, dAugI, dAugL, dRetO, dRetV, dChain_eq, dNeg, dIter_eq, itD_sq, itD_tup, itD_lst, itD_fl, dRng1, dRng2, dRng3, dEnum_eq, enD_one, dZip, start0, dYes, ioAll, wipeS, List.mem_cons, List.not_mem_nil,  dSumA, dMaxA, dMinA, dAllA, dAnyA, dOnA, intsL_ints, blsL_bls, atI_0, atI_1, atI_2, atI_3, ixN_lit0, ixN_lit1, ixN_lit2, ixN_lit3,
  List.getElem?_cons_zero, List.getElem?_cons_succ, List.set_cons_zero, List.set_cons_succ, List.map_cons, List.map_nil, List.length_cons, List.length_nil, List.getD_cons_zero, List.getD_cons_succ, List.mapIdx_cons, List.mapIdx_nil, List.findIdx?_cons, List.findIdx?_nil, List.all_cons, List.all_nil, List.append_nil, List.cons_append, List.nil_append, List.replicate_succ, List.replicate_zero, Option.map_some, Option.map_none, List.nodup_cons, List.nodup_nil, List.not_mem_nil, Bool.and_true, Bool.true_and, Bool.and_self, Bool.not_true, Bool.not_false, if_true, if_false, reduceIte, reduceCtorEq, Nat.reduceAdd, Nat.reduceSub, Nat.reduceBEq, Nat.reduceEqDiff, decide_true, decide_false, and_true, true_and, or_false, false_or, not_false_eq_true, beq_self_eq_true, Bool.false_eq_true, Option.getD_some, Option.getD_none, Option.some.injEq, exists_eq_left', ne_self_iff_false, Nat.zero_add, Nat.reduceLeDiff, Int.reduceNeg, and_self]
    by_cases c : max p.1 q.1 ≤ min p.2 q.2
    · have hl := cl _ rfl
      have g : ∀ k : Nat, k < (min p.2 q.2 + 1 - max p.1 q.1).toNat → (comm p q (p.2 + 1 - p.1).toNat)[k]? = some (.int (max p.1 q.1 + k)) := fun k hk => by
        unfold comm at hl ⊢
        rw [ints_len] at hl
        unfold DL.intsFrom
        rw [List.getElem?_map, List.getElem?_range (by omega)]; rfl
      rw [if_pos (by rw [decide_eq_true_eq, hl]; omega)]
      refine ⟨_, atI_nn (by decide) (g 0 (by omega)), _, atI_neg1 (g _ (by rw [hl]; omega)), ?_⟩
      rw [hl]
      refine tail _ ?_
      rw [if_pos c]
      simp only [pr, sq_t]
      rw [show max p.1 q.1 + (((min p.2 q.2 + 1 - max p.1 q.1).toNat - 1 : Nat) : Int) = min p.2 q.2 by omega, show max p.1 q.1 + ((0 : Nat) : Int) = max p.1 q.1 by omega]
    · rw [if_neg (by rw [decide_eq_true_eq, cl _ rfl]; omega)]
      exact tail .non (by rw [if_neg c])
theorem odd_lit (x : D) (ht : x.tyN.isSome = true) (h1 : ∀ v, x ≠ .int v) (h2 : ∀ b, x ≠ .bl b) (h3 : x.lay = true) (h4 : x.py.showable = true) (h5 : x.py.shown.length ≤ sizeLine) (h6 : (D.str x.txt).lay = true) (hf : inFT x 1 24 = false) : inFT x 1 24 = false ∧ ((∃ v, x = .int v) ∨ (x.tyN.isSome = true ∧ (∀ v, x ≠ .int v) ∧ (∀ b, x ≠ .bl b) ∧ x.lay = true ∧ x.py.showable = true ∧ x.py.shown.length ≤ sizeLine ∧ (D.str x.txt).lay = true)) :=
  ⟨hf, .inr ⟨ht, h1, h2, h3, h4, h5, h6⟩⟩
theorem odd_int (v : Int) (h : v < 1 ∨ 24 < v) : inFT (.int v) 1 24 = false ∧ ((∃ w, D.int v = .int w) ∨ ((D.int v).tyN.isSome = true ∧ (∀ w, D.int v ≠ .int w) ∧ (∀ b, D.int v ≠ .bl b) ∧ (D.int v).lay = true ∧ (D.int v).py.showable = true ∧ (D.int v).py.shown.length ≤ sizeLine ∧ (D.str (D.int v).txt).lay = true)) :=
  ⟨by unfold inFT; simp; omega, .inl ⟨v, rfl⟩⟩
theorem odd_none : (D.non.py.shown.length ≤ sizeLine ∧ (D.str D.non.txt).lay = true) := by
  decide +kernel
theorem odd_str : (D.str "3").lay = true ∧ ((D.str "3").py.shown.length ≤ sizeLine ∧ (D.str (D.str "3").txt).lay = true) := by
  decide +kernel
theorem odd_tup : (D.tup [.int 3]).lay = true ∧ (D.tup [.int 3]).py.showable = true ∧ ((D.tup [.int 3]).py.shown.length ≤ sizeLine ∧ (D.str (D.tup [.int 3]).txt).lay = true) := by
  decide +kernel
theorem odd_lst : (D.lst [.int 2]).lay = true ∧ (D.lst [.int 2]).py.showable = true ∧ ((D.lst [.int 2]).py.shown.length ≤ sizeLine ∧ (D.str (D.lst [.int 2]).txt).lay = true) := by
  decide +kernel
theorem rd_law : Reads 1 N_law S_law ds_law := by
  intro svs ret exc h
  obtain ⟨ns, h1, rfl, h⟩ := h
  refine ⟨rfl, ?_⟩
  simp only [ds_law, dSeq, dNext, dAsg, dgName, dStore, dIfS, dTest_eq, tsD_bl, dOp, dVar, dC, dRet, dRetN, dNever, dBrk, dCnt, dAnd, dOr, dNot, dAndV_eq, dOrV_eq, dNotV_eq, dIf, dNil, dCons, dConsS, dArgs, avD, dCB, dCBO, dInt1_int, dInt2_int, dIntOf_int, dIntOf_bl, dTup, dLst, dFrz, dDrop, dEq_int, dNe_int, dI0_int, dI2_int, dLt_int, dLe_int, dGt_int, dGe_int, dIsN_non, dNotN_non, dIsB_bl, dNotB_bl, isNon_sq, isNon_non, isNon_int, isNon_bl, isNon_str, isNon_tup, isNon_lst, dIx_sq, dIx_tup, dIx_lst, dIx_fl, dIxO, ixO_m, dSetI, dMet, mApp, mPop, mPopAt, mIns, mClear, dPart, dNoPart, dSl_eq, slD_sq, slD_tup, slD_lst, slD_fl, dSlL, dListOf_sq, dListOf_tup, dListOf_lst, dTupOf_sq, dTupOf_tup, dTupOf_lst, dLen_sq, dLen_tup, dLen_lst, dLen_fl, dAdd_int, dAdd_tup, dAdd_lst, dAdd_str, dAddO, dAsgO, dStill, dOpen, dHide, dIsi_ii, dIsi_ib, dIsi_tt, dIsi_ll, dIsi_sq, dIsiT_row, dIsi_bb, dIsi_bi, dIsi_bt, dIsi_it, dIsi_il, dIsi_is, dIsi_nb, dIsi_ni, dIsi_nt, dIsi_nl, dIsi_ti, dIsi_tb, dIsi_tl, dIsi_ts, dIsi_li, dIsi_lb, dIsi_lt, dIsi_ls, dIsi_si, dIsi_sb, dIsi_st, dIsi_ss, dEq_bl, dNe_bl, dInRange, dRgB, dCall_of, dCallO_of, AV.ok, AV.sv, slotsOf, setIo_un, setIo_d, setIo_ol, setIo_op, setIo_ok, setIo_ot, own_un, own_d, own_ol, own_op, own_ok, own_ot, io_un, io_d, io_ol, io_op, io_ok, io_ot, putBack, AV.isSl, dgSeq, dgCons, dgNil, seqOf_sq, seqOf_tup', seqOf_lst, seqOf_fl, dLook, dLookT, lookAll, SV.look, dAugI, dAugL, dRetO, dRetV, dChain_eq, dNeg, dIter_eq, itD_sq, itD_tup, itD_lst, itD_fl, dRng1, dRng2, dRng3, dEnum_eq, enD_one, dZip, start0, dYes, ioAll, wipeS, List.mem_cons, List.not_mem_nil,  dSumA, dMaxA, dMinA, dAllA, dAnyA, dOnA, intsL_ints, blsL_bls, atI_0, atI_1, atI_2, atI_3, ixN_lit0, ixN_lit1, ixN_lit2, ixN_lit3,
  List.getElem?_cons_zero, List.getElem?_cons_succ, List.set_cons_zero, List.set_cons_succ, List.map_cons, List.map_nil, List.length_cons, List.length_nil, List.getD_cons_zero, List.getD_cons_succ, List.mapIdx_cons, List.mapIdx_nil, List.findIdx?_cons, List.findIdx?_nil, List.all_cons, List.all_nil, List.append_nil, List.cons_append, List.nil_append, List.replicate_succ, List.replicate_zero, Option.map_some, Option.map_none, List.nodup_cons, List.nodup_nil, List.not_mem_nil, Bool.and_true, Bool.true_and, Bool.and_self, Bool.not_true, Bool.not_false, if_true, if_false, reduceIte, reduceCtorEq, Nat.reduceAdd, Nat.reduceSub, Nat.reduceBEq, Nat.reduceEqDiff, decide_true, decide_false, and_true, true_and, or_false, false_or, not_false_eq_true, beq_self_eq_true, Bool.false_eq_true, Option.getD_some, Option.getD_none, Option.some.injEq, exists_eq_left', ne_self_iff_false, Nat.zero_add, Nat.reduceLeDiff, Int.reduceNeg, and_self]
  refine ⟨ns, rfl, h1, fun xs hx => ?_⟩
  simp only [ds_law_s1, dSeq, dNext, dAsg, dgName, dStore, dIfS, dTest_eq, tsD_bl, dOp, dVar, dC, dRet, dRetN, dNever, dBrk, dCnt, dAnd, dOr, dNot, dAndV_eq, dOrV_eq, dNotV_eq, dIf, dNil, dCons, dConsS, dArgs, avD, dCB, dCBO, dInt1_int, dInt2_int, dIntOf_int, dIntOf_bl, dTup, dLst, dFrz, dDrop, dEq_int, dNe_int, dI0_int, dI2_int, dLt_int, dLe_int, dGt_int, dGe_int, dIsN_non, dNotN_non, dIsB_bl, dNotB_bl, isNon_sq, isNon_non, isNon_int, isNon_bl, isNon_str, isNon_tup, isNon_lst, dIx_sq, dIx_tup, dIx_lst, dIx_fl, dIxO, ixO_m, dSetI, dMet, mApp, mPop, mPopAt, mIns, mClear, dPart, dNoPart, dSl_eq, slD_sq, slD_tup, slD_lst, slD_fl, dSlL, dListOf_sq, dListOf_tup, dListOf_lst, dTupOf_sq, dTupOf_tup, dTupOf_lst, dLen_sq, dLen_tup, dLen_lst, dLen_fl, dAdd_int, dAdd_tup, dAdd_lst, dAdd_str, dAddO, dAsgO, dStill, dOpen, dHide, dIsi_ii, dIsi_ib, dIsi_tt, dIsi_ll, dIsi_sq, dIsiT_row, dIsi_bb, dIsi_bi, dIsi_bt, dIsi_it, dIsi_il, dIsi_is, dIsi_nb, dIsi_ni, dIsi_nt, dIsi_nl, dIsi_ti, dIsi_tb, dIsi_tl, dIsi_ts, dIsi_li, dIsi_lb, dIsi_lt, dIsi_ls, dIsi_si, dIsi_sb, dIsi_st, dIsi_ss, dEq_bl, dNe_bl, dInRange, dRgB, dCall_of, dCallO_of, AV.ok, AV.sv, slotsOf, setIo_un, setIo_d, setIo_ol, setIo_op, setIo_ok, setIo_ot, own_un, own_d, own_ol, own_op, own_ok, own_ot, io_un, io_d, io_ol, io_op, io_ok, io_ot, putBack, AV.isSl, dgSeq, dgCons, dgNil, seqOf_sq, seqOf_tup', seqOf_lst, seqOf_fl, dLook, dLookT, lookAll, SV.look, dAugI, dAugL, dRetO, dRetV, dChain_eq, dNeg, dIter_eq, itD_sq, itD_tup, itD_lst, itD_fl, dRng1, dRng2, dRng3, dEnum_eq, enD_one, dZip, start0, dYes, ioAll, wipeS, List.mem_cons, List.not_mem_nil,  dSumA, dMaxA, dMinA, dAllA, dAnyA, dOnA, intsL_ints, blsL_bls, atI_0, atI_1, atI_2, atI_3, ixN_lit0, ixN_lit1, ixN_lit2, ixN_lit3,
  List.getElem?_cons_zero, List.getElem?_cons_succ, List.set_cons_zero, List.set_cons_succ, List.map_cons, List.map_nil, List.length_cons, List.length_nil, List.getD_cons_zero, List.getD_cons_succ, List.mapIdx_cons, List.mapIdx_nil, List.findIdx?_cons, List.findIdx?_nil, List.all_cons, List.all_nil, List.append_nil, List.cons_append, List.nil_append, List.replicate_succ, List.replicate_zero, Option.map_some, Option.map_none, List.nodup_cons, List.nodup_nil, List.not_mem_nil, Bool.and_true, Bool.true_and, Bool.and_self, Bool.not_true, Bool.not_false, if_true, if_false, reduceIte, reduceCtorEq, Nat.reduceAdd, Nat.reduceSub, Nat.reduceBEq, Nat.reduceEqDiff, decide_true, decide_false, and_true, true_and, or_false, false_or, not_false_eq_true, beq_self_eq_true, Bool.false_eq_true, Option.getD_some, Option.getD_none, Option.some.injEq, exists_eq_left', ne_self_iff_false, Nat.zero_add, Nat.reduceLeDiff, Int.reduceNeg, and_self]
  refine ⟨hx, 24, rfl, by decide, by decide, fun r0 a0 a1 => ?_⟩
  simp only [ds_law_s2, dSeq, dNext, dAsg, dgName, dStore, dIfS, dTest_eq, tsD_bl, dOp, dVar, dC, dRet, dRetN, dNever, dBrk, dCnt, dAnd, dOr, dNot, dAndV_eq, dOrV_eq, dNotV_eq, dIf, dNil, dCons, dConsS, dArgs, avD, dCB, dCBO, dInt1_int, dInt2_int, dIntOf_int, dIntOf_bl, dTup, dLst, dFrz, dDrop, dEq_int, dNe_int, dI0_int, dI2_int, dLt_int, dLe_int, dGt_int, dGe_int, dIsN_non, dNotN_non, dIsB_bl, dNotB_bl, isNon_sq, isNon_non, isNon_int, isNon_bl, isNon_str, isNon_tup, isNon_lst, dIx_sq, dIx_tup, dIx_lst, dIx_fl, dIxO, ixO_m, dSetI, dMet, mApp, mPop, mPopAt, mIns, mClear, dPart, dNoPart, dSl_eq, slD_sq, slD_tup, slD_lst, slD_fl, dSlL, dListOf_sq, dListOf_tup, dListOf_lst, dTupOf_sq, dTupOf_tup, dTupOf_lst, dLen_sq, dLen_tup, dLen_lst, dLen_fl, dAdd_int, dAdd_tup, dAdd_lst, dAdd_str, dAddO, dAsgO, dStill, dOpen, dHide, dIsi_ii, dIsi_ib, dIsi_tt, dIsi_ll, dIsi_sq, dIsiT_row, dIsi_bb, dIsi_bi, dIsi_bt, dIsi_it, dIsi_il, dIsi_is, dIsi_nb, dIsi_ni, dIsi_nt, dIsi_nl, dIsi_ti, dIsi_tb, dIsi_tl, dIsi_ts, dIsi_li, dIsi_lb, dIsi_lt, dIsi_ls, dIsi_si, dIsi_sb, dIsi_st, dIsi_ss, dEq_bl, dNe_bl, dInRange, dRgB, dCall_of, dCallO_of, AV.ok, AV.sv, slotsOf, setIo_un, setIo_d, setIo_ol, setIo_op, setIo_ok, setIo_ot, own_un, own_d, own_ol, own_op, own_ok, own_ot, io_un, io_d, io_ol, io_op, io_ok, io_ot, putBack, AV.isSl, dgSeq, dgCons, dgNil, seqOf_sq, seqOf_tup', seqOf_lst, seqOf_fl, dLook, dLookT, lookAll, SV.look, dAugI, dAugL, dRetO, dRetV, dChain_eq, dNeg, dIter_eq, itD_sq, itD_tup, itD_lst, itD_fl, dRng1, dRng2, dRng3, dEnum_eq, enD_one, dZip, start0, dYes, ioAll, wipeS, List.mem_cons, List.not_mem_nil,  dSumA, dMaxA, dMinA, dAllA, dAnyA, dOnA, intsL_ints, blsL_bls, atI_0, atI_1, atI_2, atI_3, ixN_lit0, ixN_lit1, ixN_lit2, ixN_lit3,
  List.getElem?_cons_zero, List.getElem?_cons_succ, List.set_cons_zero, List.set_cons_succ, List.map_cons, List.map_nil, List.length_cons, List.length_nil, List.getD_cons_zero, List.getD_cons_succ, List.mapIdx_cons, List.mapIdx_nil, List.findIdx?_cons, List.findIdx?_nil, List.all_cons, List.all_nil, List.append_nil, List.cons_append, List.nil_append, List.replicate_succ, List.replicate_zero, Option.map_some, Option.map_none, List.nodup_cons, List.nodup_nil, List.not_mem_nil, Bool.and_true, Bool.true_and, Bool.and_self, Bool.not_true, Bool.not_false, if_true, if_false, reduceIte, reduceCtorEq, Nat.reduceAdd, Nat.reduceSub, Nat.reduceBEq, Nat.reduceEqDiff, decide_true, decide_false, and_true, true_and, or_false, false_or, not_false_eq_true, beq_self_eq_true, Bool.false_eq_true, Option.getD_some, Option.getD_none, Option.some.injEq, exists_eq_left', ne_self_iff_false, Nat.zero_add, Nat.reduceLeDiff, Int.reduceNeg, and_self]
  refine for_of (DL.intsFrom 0 8) _ (fun Φ Ξ h => by (try walk_at "dl"); exact ⟨by decide, h⟩) (fun k ρ => ρ = [SV.d (D.fl (List.map D.int ns)), .op false SrcP, SV.d (D.int (1 + r0)), .un, .un, .un, .un, .un]) rfl (fun k x ρ2 hx e => ?_) (fun ρ2 e => ?_)
  · subst e
    obtain ⟨_, rfl⟩ := ints_at hx
    simp only [ds_law_b1, dSeq, dNext, dAsg, dgName, dStore, dIfS, dTest_eq, tsD_bl, dOp, dVar, dC, dRet, dRetN, dNever, dBrk, dCnt, dAnd, dOr, dNot, dAndV_eq, dOrV_eq, dNotV_eq, dIf, dNil, dCons, dConsS, dArgs, avD, dCB, dCBO, dInt1_int, dInt2_int, dIntOf_int, dIntOf_bl, dTup, dLst, dFrz, dDrop, dEq_int, dNe_int, dI0_int, dI2_int, dLt_int, dLe_int, dGt_int, dGe_int, dIsN_non, dNotN_non, dIsB_bl, dNotB_bl, isNon_sq, isNon_non, isNon_int, isNon_bl, isNon_str, isNon_tup, isNon_lst, dIx_sq, dIx_tup, dIx_lst, dIx_fl, dIxO, ixO_m, dSetI, dMet, mApp, mPop, mPopAt, mIns, mClear, dPart, dNoPart, dSl_eq, slD_sq, slD_tup, slD_lst, slD_fl, dSlL, dListOf_sq, dListOf_tup, dListOf_lst, dTupOf_sq, dTupOf_tup, dTupOf_lst, dLen_sq, dLen_tup, dLen_lst, dLen_fl, dAdd_int, dAdd_tup, dAdd_lst, dAdd_str, dAddO, dAsgO, dStill, dOpen, dHide, dIsi_ii, dIsi_ib, dIsi_tt, dIsi_ll, dIsi_sq, dIsiT_row, dIsi_bb, dIsi_bi, dIsi_bt, dIsi_it, dIsi_il, dIsi_is, dIsi_nb, dIsi_ni, dIsi_nt, dIsi_nl, dIsi_ti, dIsi_tb, dIsi_tl, dIsi_ts, dIsi_li, dIsi_lb, dIsi_lt, dIsi_ls, dIsi_si, dIsi_sb, dIsi_st, dIsi_ss, dEq_bl, dNe_bl, dInRange, dRgB, dCall_of, dCallO_of, AV.ok, AV.sv, slotsOf, setIo_un, setIo_d, setIo_ol, setIo_op, setIo_ok, setIo_ot, own_un, own_d, own_ol, own_op, own_ok, own_ot, io_un, io_d, io_ol, io_op, io_ok, io_ot, putBack, AV.isSl, dgSeq, dgCons, dgNil, seqOf_sq, seqOf_tup', seqOf_lst, seqOf_fl, dLook, dLookT, lookAll, SV.look, dAugI, dAugL, dRetO, dRetV, dChain_eq, dNeg, dIter_eq, itD_sq, itD_tup, itD_lst, itD_fl, dRng1, dRng2, dRng3, dEnum_eq, enD_one, dZip, start0, dYes, ioAll, wipeS, List.mem_cons, List.not_mem_nil,  dSumA, dMaxA, dMinA, dAllA, dAnyA, dOnA, intsL_ints, blsL_bls, atI_0, atI_1, atI_2, atI_3, ixN_lit0, ixN_lit1, ixN_lit2, ixN_lit3,
  List.getElem?_cons_zero, List.getElem?_cons_succ, List.set_cons_zero, List.set_cons_succ, List.map_cons, List.map_nil, List.length_cons, List.length_nil, List.getD_cons_zero, List.getD_cons_succ, List.mapIdx_cons, List.mapIdx_nil, List.findIdx?_cons, List.findIdx?_nil, List.all_cons, List.all_nil, List.append_nil, List.cons_append, List.nil_append, List.replicate_succ, List.replicate_zero, Option.map_some, Option.map_none, List.nodup_cons, List.nodup_nil, List.not_mem_nil, Bool.and_true, Bool.true_and, Bool.and_self, Bool.not_true, Bool.not_false, if_true, if_false, reduceIte, reduceCtorEq, Nat.reduceAdd, Nat.reduceSub, Nat.reduceBEq, Nat.reduceEqDiff, decide_true, decide_false, and_true, true_and, or_false, false_or, not_false_eq_true, beq_self_eq_true, Bool.false_eq_true, Option.getD_some, Option.getD_none, Option.some.injEq, exists_eq_left', ne_self_iff_false, Nat.zero_add, Nat.reduceLeDiff, Int.reduceNeg, and_self]
    refine ⟨_, rfl, by omega, by omega, fun a b c0 c1 c2 => ?_⟩
    walk_at "dl"
    refine ⟨_, (a, b), rfl, by omega, by omega, c0, c1, c2, fun a' b' d0 d1 d2 => ?_⟩
    walk_at "dl"
    refine ⟨4, rfl, by decide, by decide, fun w w0 w1 => ?_⟩
    walk_at "dl"
    refine ⟨(a, b), (a', b'), w, rfl, c0, c1, by dsimp only; omega, d0, d1, by dsimp only; omega, w0, w1, ?_⟩
    walk_at "dl"
    refine ⟨(a', b'), (a, b), w, rfl, d0, d1, by dsimp only; omega, c0, c1, by dsimp only; omega, w0, w1, ?_⟩
    walk_at "dl"
    refine ⟨(a, b), (a, b), 3 - w, rfl, c0, c1, by dsimp only; omega, c0, c1, by dsimp only; omega, by omega, by omega, ?_⟩
    walk_at "dl"
    exact ⟨_, (by repeat (first | exact Weaks.nil | refine Weaks.cons (by first | exact Weak.refl _ | exact Weak.un rfl | (refine Weak.op ?_; assumption)) ?_)), rfl⟩
  · subst e
    simp only [ds_law_s3, dSeq, dNext, dAsg, dgName, dStore, dIfS, dTest_eq, tsD_bl, dOp, dVar, dC, dRet, dRetN, dNever, dBrk, dCnt, dAnd, dOr, dNot, dAndV_eq, dOrV_eq, dNotV_eq, dIf, dNil, dCons, dConsS, dArgs, avD, dCB, dCBO, dInt1_int, dInt2_int, dIntOf_int, dIntOf_bl, dTup, dLst, dFrz, dDrop, dEq_int, dNe_int, dI0_int, dI2_int, dLt_int, dLe_int, dGt_int, dGe_int, dIsN_non, dNotN_non, dIsB_bl, dNotB_bl, isNon_sq, isNon_non, isNon_int, isNon_bl, isNon_str, isNon_tup, isNon_lst, dIx_sq, dIx_tup, dIx_lst, dIx_fl, dIxO, ixO_m, dSetI, dMet, mApp, mPop, mPopAt, mIns, mClear, dPart, dNoPart, dSl_eq, slD_sq, slD_tup, slD_lst, slD_fl, dSlL, dListOf_sq, dListOf_tup, dListOf_lst, dTupOf_sq, dTupOf_tup, dTupOf_lst, dLen_sq, dLen_tup, dLen_lst, dLen_fl, dAdd_int, dAdd_tup, dAdd_lst, dAdd_str, dAddO, dAsgO, dStill, dOpen, dHide, dIsi_ii, dIsi_ib, dIsi_tt, dIsi_ll, dIsi_sq, dIsiT_row, dIsi_bb, dIsi_bi, dIsi_bt, dIsi_it, dIsi_il, dIsi_is, dIsi_nb, dIsi_ni, dIsi_nt, dIsi_nl, dIsi_ti, dIsi_tb, dIsi_tl, dIsi_ts, dIsi_li, dIsi_lb, dIsi_lt, dIsi_ls, dIsi_si, dIsi_sb, dIsi_st, dIsi_ss, dEq_bl, dNe_bl, dInRange, dRgB, dCall_of, dCallO_of, AV.ok, AV.sv, slotsOf, setIo_un, setIo_d, setIo_ol, setIo_op, setIo_ok, setIo_ot, own_un, own_d, own_ol, own_op, own_ok, own_ot, io_un, io_d, io_ol, io_op, io_ok, io_ot, putBack, AV.isSl, dgSeq, dgCons, dgNil, seqOf_sq, seqOf_tup', seqOf_lst, seqOf_fl, dLook, dLookT, lookAll, SV.look, dAugI, dAugL, dRetO, dRetV, dChain_eq, dNeg, dIter_eq, itD_sq, itD_tup, itD_lst, itD_fl, dRng1, dRng2, dRng3, dEnum_eq, enD_one, dZip, start0, dYes, ioAll, wipeS, List.mem_cons, List.not_mem_nil,  dSumA, dMaxA, dMinA, dAllA, dAnyA, dOnA, intsL_ints, blsL_bls, atI_0, atI_1, atI_2, atI_3, ixN_lit0, ixN_lit1, ixN_lit2, ixN_lit3,
  List.getElem?_cons_zero, List.getElem?_cons_succ, List.set_cons_zero, List.set_cons_succ, List.map_cons, List.map_nil, List.length_cons, List.length_nil, List.getD_cons_zero, List.getD_cons_succ, List.mapIdx_cons, List.mapIdx_nil, List.findIdx?_cons, List.findIdx?_nil, List.all_cons, List.all_nil, List.append_nil, List.cons_append, List.nil_append, List.replicate_succ, List.replicate_zero, Option.map_some, Option.map_none, List.nodup_cons, List.nodup_nil, List.not_mem_nil, Bool.and_true, Bool.true_and, Bool.and_self, Bool.not_true, Bool.not_false, if_true, if_false, reduceIte, reduceCtorEq, Nat.reduceAdd, Nat.reduceSub, Nat.reduceBEq, Nat.reduceEqDiff, decide_true, decide_false, and_true, true_and, or_false, false_or, not_false_eq_true, beq_self_eq_true, Bool.false_eq_true, Option.getD_some, Option.getD_none, Option.some.injEq, exists_eq_left', ne_self_iff_false, Nat.zero_add, Nat.reduceLeDiff, Int.reduceNeg, and_self]
    refine ⟨1000, rfl, by decide, by decide, fun u u0 u1 => ?_⟩
    walk_at "dl"
    refine ⟨1000, rfl, by decide, by decide, fun v v0 v1 => ?_⟩
    walk_at "dl"
    refine ⟨⟨by decide, by decide, by decide⟩, ?_⟩
    generalize hL : [D.int 0, .int 25, .int (-1), .non, .str "3", .tup [.int 3], .lst [.int 2], .int (25 + u), .int (0 - v), .int (10 ^ Int.toNat 30)] = L
    have okL : ∀ x ∈ L, inFT x 1 24 = false ∧ ((∃ v, x = .int v) ∨ (x.tyN.isSome = true ∧ (∀ v, x ≠ .int v) ∧ (∀ b, x ≠ .bl b) ∧ x.lay = true ∧ x.py.showable = true ∧ x.py.shown.length ≤ sizeLine ∧ (D.str x.txt).lay = true)) := by
      intro x hx
      subst hL
      simp only [List.mem_cons, List.not_mem_nil, or_false] at hx
      rcases hx with rfl | rfl | rfl | rfl | rfl | rfl | rfl | rfl | rfl | rfl
      · exact odd_int _ (by decide)
      · exact odd_int _ (by decide)
      · exact odd_int _ (by decide)
      · exact odd_lit _ rfl (fun _ => by simp) (fun _ => by simp) rfl rfl odd_none.1 odd_none.2 rfl
      · exact odd_lit _ rfl (fun _ => by simp) (fun _ => by simp) odd_str.1 rfl odd_str.2.1 odd_str.2.2 rfl
      · exact odd_lit _ rfl (fun _ => by simp) (fun _ => by simp) odd_tup.1 odd_tup.2.1 odd_tup.2.2.1 odd_tup.2.2.2 rfl
      · exact odd_lit _ rfl (fun _ => by simp) (fun _ => by simp) odd_lst.1 odd_lst.2.1 odd_lst.2.2.1 odd_lst.2.2.2 rfl
      · exact odd_int _ (by omega)
      · exact odd_int _ (by omega)
      · exact odd_int _ (by decide)
    have lenL : L.length = 10 := by subst hL; rfl
    simp only [ds_law_s4, dSeq, dNext, dAsg, dgName, dStore, dIfS, dTest_eq, tsD_bl, dOp, dVar, dC, dRet, dRetN, dNever, dBrk, dCnt, dAnd, dOr, dNot, dAndV_eq, dOrV_eq, dNotV_eq, dIf, dNil, dCons, dConsS, dArgs, avD, dCB, dCBO, dInt1_int, dInt2_int, dIntOf_int, dIntOf_bl, dTup, dLst, dFrz, dDrop, dEq_int, dNe_int, dI0_int, dI2_int, dLt_int, dLe_int, dGt_int, dGe_int, dIsN_non, dNotN_non, dIsB_bl, dNotB_bl, isNon_sq, isNon_non, isNon_int, isNon_bl, isNon_str, isNon_tup, isNon_lst, dIx_sq, dIx_tup, dIx_lst, dIx_fl, dIxO, ixO_m, dSetI, dMet, mApp, mPop, mPopAt, mIns, mClear, dPart, dNoPart, dSl_eq, slD_sq, slD_tup, slD_lst, slD_fl, dSlL, dListOf_sq, dListOf_tup, dListOf_lst, dTupOf_sq, dTupOf_tup, dTupOf_lst, dLen_sq, dLen_tup, dLen_lst, dLen_fl, dAdd_int, dAdd_tup, dAdd_lst, dAdd_str, dAddO, dAsgO, dStill, dOpen, dHide, dIsi_ii, dIsi_ib, dIsi_tt, dIsi_ll, dIsi_sq, dIsiT_row, dIsi_bb, dIsi_bi, dIsi_bt, dIsi_it, dIsi_il, dIsi_is, dIsi_nb, dIsi_ni, dIsi_nt, dIsi_nl, dIsi_ti, dIsi_tb, dIsi_tl, dIsi_ts, dIsi_li, dIsi_lb, dIsi_lt, dIsi_ls, dIsi_si, dIsi_sb, dIsi_st, dIsi_ss, dEq_bl, dNe_bl, dInRange, dRgB, dCall_of, dCallO_of, AV.ok, AV.sv, slotsOf, setIo_un, setIo_d, setIo_ol, setIo_op, setIo_ok, setIo_ot, own_un, own_d, own_ol, own_op, own_ok, own_ot, io_un, io_d, io_ol, io_op, io_ok, io_ot, putBack, AV.isSl, dgSeq, dgCons, dgNil, seqOf_sq, seqOf_tup', seqOf_lst, seqOf_fl, dLook, dLookT, lookAll, SV.look, dAugI, dAugL, dRetO, dRetV, dChain_eq, dNeg, dIter_eq, itD_sq, itD_tup, itD_lst, itD_fl, dRng1, dRng2, dRng3, dEnum_eq, enD_one, dZip, start0, dYes, ioAll, wipeS, List.mem_cons, List.not_mem_nil,  dSumA, dMaxA, dMinA, dAllA, dAnyA, dOnA, intsL_ints, blsL_bls, atI_0, atI_1, atI_2, atI_3, ixN_lit0, ixN_lit1, ixN_lit2, ixN_lit3,
  List.getElem?_cons_zero, List.getElem?_cons_succ, List.set_cons_zero, List.set_cons_succ, List.map_cons, List.map_nil, List.length_cons, List.length_nil, List.getD_cons_zero, List.getD_cons_succ, List.mapIdx_cons, List.mapIdx_nil, List.findIdx?_cons, List.findIdx?_nil, List.all_cons, List.all_nil, List.append_nil, List.cons_append, List.nil_append, List.replicate_succ, List.replicate_zero, Option.map_some, Option.map_none, List.nodup_cons, List.nodup_nil, List.not_mem_nil, Bool.and_true, Bool.true_and, Bool.and_self, Bool.not_true, Bool.not_false, if_true, if_false, reduceIte, reduceCtorEq, Nat.reduceAdd, Nat.reduceSub, Nat.reduceBEq, Nat.reduceEqDiff, decide_true, decide_false, and_true, true_and, or_false, false_or, not_false_eq_true, beq_self_eq_true, Bool.false_eq_true, Option.getD_some, Option.getD_none, Option.some.injEq, exists_eq_left', ne_self_iff_false, Nat.zero_add, Nat.reduceLeDiff, Int.reduceNeg, and_self]
    refine for_of (DL.intsFrom 0 2) _ (fun Φ Ξ h => by (try walk_at "dl"); exact ⟨by decide, h⟩) (fun k ρ => ρ = [SV.d (D.fl (List.map D.int ns)), .op false SrcP, SV.d (D.int (1 + r0)), .un, .un, .un, .un, .d (.lst L)]) rfl (fun k x ρ2 hx e => ?_) (fun ρ2 e => ?_)
    · subst e
      obtain ⟨_, rfl⟩ := ints_at hx
      simp only [ds_law_b2, dSeq, dNext, dAsg, dgName, dStore, dIfS, dTest_eq, tsD_bl, dOp, dVar, dC, dRet, dRetN, dNever, dBrk, dCnt, dAnd, dOr, dNot, dAndV_eq, dOrV_eq, dNotV_eq, dIf, dNil, dCons, dConsS, dArgs, avD, dCB, dCBO, dInt1_int, dInt2_int, dIntOf_int, dIntOf_bl, dTup, dLst, dFrz, dDrop, dEq_int, dNe_int, dI0_int, dI2_int, dLt_int, dLe_int, dGt_int, dGe_int, dIsN_non, dNotN_non, dIsB_bl, dNotB_bl, isNon_sq, isNon_non, isNon_int, isNon_bl, isNon_str, isNon_tup, isNon_lst, dIx_sq, dIx_tup, dIx_lst, dIx_fl, dIxO, ixO_m, dSetI, dMet, mApp, mPop, mPopAt, mIns, mClear, dPart, dNoPart, dSl_eq, slD_sq, slD_tup, slD_lst, slD_fl, dSlL, dListOf_sq, dListOf_tup, dListOf_lst, dTupOf_sq, dTupOf_tup, dTupOf_lst, dLen_sq, dLen_tup, dLen_lst, dLen_fl, dAdd_int, dAdd_tup, dAdd_lst, dAdd_str, dAddO, dAsgO, dStill, dOpen, dHide, dIsi_ii, dIsi_ib, dIsi_tt, dIsi_ll, dIsi_sq, dIsiT_row, dIsi_bb, dIsi_bi, dIsi_bt, dIsi_it, dIsi_il, dIsi_is, dIsi_nb, dIsi_ni, dIsi_nt, dIsi_nl, dIsi_ti, dIsi_tb, dIsi_tl, dIsi_ts, dIsi_li, dIsi_lb, dIsi_lt, dIsi_ls, dIsi_si, dIsi_sb, dIsi_st, dIsi_ss, dEq_bl, dNe_bl, dInRange, dRgB, dCall_of, dCallO_of, AV.ok, AV.sv, slotsOf, setIo_un, setIo_d, setIo_ol, setIo_op, setIo_ok, setIo_ot, own_un, own_d, own_ol, own_op, own_ok, own_ot, io_un, io_d, io_ol, io_op, io_ok, io_ot, putBack, AV.isSl, dgSeq, dgCons, dgNil, seqOf_sq, seqOf_tup', seqOf_lst, seqOf_fl, dLook, dLookT, lookAll, SV.look, dAugI, dAugL, dRetO, dRetV, dChain_eq, dNeg, dIter_eq, itD_sq, itD_tup, itD_lst, itD_fl, dRng1, dRng2, dRng3, dEnum_eq, enD_one, dZip, start0, dYes, ioAll, wipeS, List.mem_cons, List.not_mem_nil,  dSumA, dMaxA, dMinA, dAllA, dAnyA, dOnA, intsL_ints, blsL_bls, atI_0, atI_1, atI_2, atI_3, ixN_lit0, ixN_lit1, ixN_lit2, ixN_lit3,
  List.getElem?_cons_zero, List.getElem?_cons_succ, List.set_cons_zero, List.set_cons_succ, List.map_cons, List.map_nil, List.length_cons, List.length_nil, List.getD_cons_zero, List.getD_cons_succ, List.mapIdx_cons, List.mapIdx_nil, List.findIdx?_cons, List.findIdx?_nil, List.all_cons, List.all_nil, List.append_nil, List.cons_append, List.nil_append, List.replicate_succ, List.replicate_zero, Option.map_some, Option.map_none, List.nodup_cons, List.nodup_nil, List.not_mem_nil, Bool.and_true, Bool.true_and, Bool.and_self, Bool.not_true, Bool.not_false, if_true, if_false, reduceIte, reduceCtorEq, Nat.reduceAdd, Nat.reduceSub, Nat.reduceBEq, Nat.reduceEqDiff, decide_true, decide_false, and_true, true_and, or_false, false_or, not_false_eq_true, beq_self_eq_true, Bool.false_eq_true, Option.getD_some, Option.getD_none, Option.some.injEq, exists_eq_left', ne_self_iff_false, Nat.zero_add, Nat.reduceLeDiff, Int.reduceNeg, and_self]
      refine ⟨10, by rw [lenL]; rfl, by decide, by decide, fun r r1 r2 => ?_⟩
      have hr : r.toNat < L.length := by rw [lenL]; omega
      walk_at "dl"
      refine ⟨_, atI_nn r1 (List.getElem?_eq_getElem hr), ?_⟩
      obtain ⟨o1, o2⟩ := okL _ (List.getElem_mem hr)
      refine ⟨_, rfl, o1, o2, ?_⟩
      walk_at "dl"
      exact ⟨_, (by repeat (first | exact Weaks.nil | refine Weaks.cons (by first | exact Weak.refl _ | exact Weak.un rfl | (refine Weak.op ?_; assumption)) ?_)), rfl⟩
    · subst e
      simp only [ds_law_s5, dSeq, dNext, dAsg, dgName, dStore, dIfS, dTest_eq, tsD_bl, dOp, dVar, dC, dRet, dRetN, dNever, dBrk, dCnt, dAnd, dOr, dNot, dAndV_eq, dOrV_eq, dNotV_eq, dIf, dNil, dCons, dConsS, dArgs, avD, dCB, dCBO, dInt1_int, dInt2_int, dIntOf_int, dIntOf_bl, dTup, dLst, dFrz, dDrop, dEq_int, dNe_int, dI0_int, dI2_int, dLt_int, dLe_int, dGt_int, dGe_int, dIsN_non, dNotN_non, dIsB_bl, dNotB_bl, isNon_sq, isNon_non, isNon_int, isNon_bl, isNon_str, isNon_tup, isNon_lst, dIx_sq, dIx_tup, dIx_lst, dIx_fl, dIxO, ixO_m, dSetI, dMet, mApp, mPop, mPopAt, mIns, mClear, dPart, dNoPart, dSl_eq, slD_sq, slD_tup, slD_lst, slD_fl, dSlL, dListOf_sq, dListOf_tup, dListOf_lst, dTupOf_sq, dTupOf_tup, dTupOf_lst, dLen_sq, dLen_tup, dLen_lst, dLen_fl, dAdd_int, dAdd_tup, dAdd_lst, dAdd_str, dAddO, dAsgO, dStill, dOpen, dHide, dIsi_ii, dIsi_ib, dIsi_tt, dIsi_ll, dIsi_sq, dIsiT_row, dIsi_bb, dIsi_bi, dIsi_bt, dIsi_it, dIsi_il, dIsi_is, dIsi_nb, dIsi_ni, dIsi_nt, dIsi_nl, dIsi_ti, dIsi_tb, dIsi_tl, dIsi_ts, dIsi_li, dIsi_lb, dIsi_lt, dIsi_ls, dIsi_si, dIsi_sb, dIsi_st, dIsi_ss, dEq_bl, dNe_bl, dInRange, dRgB, dCall_of, dCallO_of, AV.ok, AV.sv, slotsOf, setIo_un, setIo_d, setIo_ol, setIo_op, setIo_ok, setIo_ot, own_un, own_d, own_ol, own_op, own_ok, own_ot, io_un, io_d, io_ol, io_op, io_ok, io_ot, putBack, AV.isSl, dgSeq, dgCons, dgNil, seqOf_sq, seqOf_tup', seqOf_lst, seqOf_fl, dLook, dLookT, lookAll, SV.look, dAugI, dAugL, dRetO, dRetV, dChain_eq, dNeg, dIter_eq, itD_sq, itD_tup, itD_lst, itD_fl, dRng1, dRng2, dRng3, dEnum_eq, enD_one, dZip, start0, dYes, ioAll, wipeS, List.mem_cons, List.not_mem_nil,  dSumA, dMaxA, dMinA, dAllA, dAnyA, dOnA, intsL_ints, blsL_bls, atI_0, atI_1, atI_2, atI_3, ixN_lit0, ixN_lit1, ixN_lit2, ixN_lit3,
  List.getElem?_cons_zero, List.getElem?_cons_succ, List.set_cons_zero, List.set_cons_succ, List.map_cons, List.map_nil, List.length_cons, List.length_nil, List.getD_cons_zero, List.getD_cons_succ, List.mapIdx_cons, List.mapIdx_nil, List.findIdx?_cons, List.findIdx?_nil, List.all_cons, List.all_nil, List.append_nil, List.cons_append, List.nil_append, List.replicate_succ, List.replicate_zero, Option.map_some, Option.map_none, List.nodup_cons, List.nodup_nil, List.not_mem_nil, Bool.and_true, Bool.true_and, Bool.and_self, Bool.not_true, Bool.not_false, if_true, if_false, reduceIte, reduceCtorEq, Nat.reduceAdd, Nat.reduceSub, Nat.reduceBEq, Nat.reduceEqDiff, decide_true, decide_false, and_true, true_and, or_false, false_or, not_false_eq_true, beq_self_eq_true, Bool.false_eq_true, Option.getD_some, Option.getD_none, Option.some.injEq, exists_eq_left', ne_self_iff_false, Nat.zero_add, Nat.reduceLeDiff, Int.reduceNeg, and_self]
      refine ⟨(1 + r0).toNat, by rw [Int.toNat_of_nonneg (by omega)], by omega, by omega, ?_⟩
      walk_at "dl"
      refine ⟨4, rfl, by decide, by decide, fun r r1 r2 => ?_⟩
      walk_at "dl"
      have fin : ∀ (n : Nat), 1 ≤ n → n ≤ 24 → ∀ (Φ : D → List SV → Prop) (Ξ : XQ) , True := fun _ _ _ _ _ => trivial
      rcases (show r = 0 ∨ r = 1 ∨ r = 2 ∨ r = 3 by omega) with rfl | rfl | rfl | rfl
      · refine ⟨_, atI_0 _ _, 1, rfl, by decide, by decide, ?_⟩
        simp only [ds_law_s6, dSeq, dNext, dAsg, dgName, dStore, dIfS, dTest_eq, tsD_bl, dOp, dVar, dC, dRet, dRetN, dNever, dBrk, dCnt, dAnd, dOr, dNot, dAndV_eq, dOrV_eq, dNotV_eq, dIf, dNil, dCons, dConsS, dArgs, avD, dCB, dCBO, dInt1_int, dInt2_int, dIntOf_int, dIntOf_bl, dTup, dLst, dFrz, dDrop, dEq_int, dNe_int, dI0_int, dI2_int, dLt_int, dLe_int, dGt_int, dGe_int, dIsN_non, dNotN_non, dIsB_bl, dNotB_bl, isNon_sq, isNon_non, isNon_int, isNon_bl, isNon_str, isNon_tup, isNon_lst, dIx_sq, dIx_tup, dIx_lst, dIx_fl, dIxO, ixO_m, dSetI, dMet, mApp, mPop, mPopAt, mIns, mClear, dPart, dNoPart, dSl_eq, slD_sq, slD_tup, slD_lst, slD_fl, dSlL, dListOf_sq, dListOf_tup, dListOf_lst, dTupOf_sq, dTupOf_tup, dTupOf_lst, dLen_sq, dLen_tup, dLen_lst, dLen_fl, dAdd_int, dAdd_tup, dAdd_lst, dAdd_str, dAddO, dAsgO, dStill, dOpen, dHide, dIsi_ii, dIsi_ib, dIsi_tt, dIsi_ll, dIsi_sq, dIsiT_row, dIsi_bb, dIsi_bi, dIsi_bt, dIsi_it, dIsi_il, dIsi_is, dIsi_nb, dIsi_ni, dIsi_nt, dIsi_nl, dIsi_ti, dIsi_tb, dIsi_tl, dIsi_ts, dIsi_li, dIsi_lb, dIsi_lt, dIsi_ls, dIsi_si, dIsi_sb, dIsi_st, dIsi_ss, dEq_bl, dNe_bl, dInRange, dRgB, dCall_of, dCallO_of, AV.ok, AV.sv, slotsOf, setIo_un, setIo_d, setIo_ol, setIo_op, setIo_ok, setIo_ot, own_un, own_d, own_ol, own_op, own_ok, own_ot, io_un, io_d, io_ol, io_op, io_ok, io_ot, putBack, AV.isSl, dgSeq, dgCons, dgNil, seqOf_sq, seqOf_tup', seqOf_lst, seqOf_fl, dLook, dLookT, lookAll, SV.look, dAugI, dAugL, dRetO, dRetV, dChain_eq, dNeg, dIter_eq, itD_sq, itD_tup, itD_lst, itD_fl, dRng1, dRng2, dRng3, dEnum_eq, enD_one, dZip, start0, dYes, ioAll, wipeS, List.mem_cons, List.not_mem_nil,  dSumA, dMaxA, dMinA, dAllA, dAnyA, dOnA, intsL_ints, blsL_bls, atI_0, atI_1, atI_2, atI_3, ixN_lit0, ixN_lit1, ixN_lit2, ixN_lit3,
  List.getElem?_cons_zero, List.getElem?_cons_succ, List.set_cons_zero, List.set_cons_succ, List.map_cons, List.map_nil, List.length_cons, List.length_nil, List.getD_cons_zero, List.getD_cons_succ, List.mapIdx_cons, List.mapIdx_nil, List.findIdx?_cons, List.findIdx?_nil, List.all_cons, List.all_nil, List.append_nil, List.cons_append, List.nil_append, List.replicate_succ, List.replicate_zero, Option.map_some, Option.map_none, List.nodup_cons, List.nodup_nil, List.not_mem_nil, Bool.and_true, Bool.true_and, Bool.and_self, Bool.not_true, Bool.not_false, if_true, if_false, reduceIte, reduceCtorEq, Nat.reduceAdd, Nat.reduceSub, Nat.reduceBEq, Nat.reduceEqDiff, decide_true, decide_false, and_true, true_and, or_false, false_or, not_false_eq_true, beq_self_eq_true, Bool.false_eq_true, Option.getD_some, Option.getD_none, Option.some.injEq, exists_eq_left', ne_self_iff_false, Nat.zero_add, Nat.reduceLeDiff, Int.reduceNeg, and_self]
        exact ⟨rfl, Ret.same h rfl⟩
      · refine ⟨_, atI_1 _ _ _, 2, rfl, by decide, by decide, ?_⟩
        simp only [ds_law_s6, dSeq, dNext, dAsg, dgName, dStore, dIfS, dTest_eq, tsD_bl, dOp, dVar, dC, dRet, dRetN, dNever, dBrk, dCnt, dAnd, dOr, dNot, dAndV_eq, dOrV_eq, dNotV_eq, dIf, dNil, dCons, dConsS, dArgs, avD, dCB, dCBO, dInt1_int, dInt2_int, dIntOf_int, dIntOf_bl, dTup, dLst, dFrz, dDrop, dEq_int, dNe_int, dI0_int, dI2_int, dLt_int, dLe_int, dGt_int, dGe_int, dIsN_non, dNotN_non, dIsB_bl, dNotB_bl, isNon_sq, isNon_non, isNon_int, isNon_bl, isNon_str, isNon_tup, isNon_lst, dIx_sq, dIx_tup, dIx_lst, dIx_fl, dIxO, ixO_m, dSetI, dMet, mApp, mPop, mPopAt, mIns, mClear, dPart, dNoPart, dSl_eq, slD_sq, slD_tup, slD_lst, slD_fl, dSlL, dListOf_sq, dListOf_tup, dListOf_lst, dTupOf_sq, dTupOf_tup, dTupOf_lst, dLen_sq, dLen_tup, dLen_lst, dLen_fl, dAdd_int, dAdd_tup, dAdd_lst, dAdd_str, dAddO, dAsgO, dStill, dOpen, dHide, dIsi_ii, dIsi_ib, dIsi_tt, dIsi_ll, dIsi_sq, dIsiT_row, dIsi_bb, dIsi_bi, dIsi_bt, dIsi_it, dIsi_il, dIsi_is, dIsi_nb, dIsi_ni, dIsi_nt, dIsi_nl, dIsi_ti, dIsi_tb, dIsi_tl, dIsi_ts, dIsi_li, dIsi_lb, dIsi_lt, dIsi_ls, dIsi_si, dIsi_sb, dIsi_st, dIsi_ss, dEq_bl, dNe_bl, dInRange, dRgB, dCall_of, dCallO_of, AV.ok, AV.sv, slotsOf, setIo_un, setIo_d, setIo_ol, setIo_op, setIo_ok, setIo_ot, own_un, own_d, own_ol, own_op, own_ok, own_ot, io_un, io_d, io_ol, io_op, io_ok, io_ot, putBack, AV.isSl, dgSeq, dgCons, dgNil, seqOf_sq, seqOf_tup', seqOf_lst, seqOf_fl, dLook, dLookT, lookAll, SV.look, dAugI, dAugL, dRetO, dRetV, dChain_eq, dNeg, dIter_eq, itD_sq, itD_tup, itD_lst, itD_fl, dRng1, dRng2, dRng3, dEnum_eq, enD_one, dZip, start0, dYes, ioAll, wipeS, List.mem_cons, List.not_mem_nil,  dSumA, dMaxA, dMinA, dAllA, dAnyA, dOnA, intsL_ints, blsL_bls, atI_0, atI_1, atI_2, atI_3, ixN_lit0, ixN_lit1, ixN_lit2, ixN_lit3,
  List.getElem?_cons_zero, List.getElem?_cons_succ, List.set_cons_zero, List.set_cons_succ, List.map_cons, List.map_nil, List.length_cons, List.length_nil, List.getD_cons_zero, List.getD_cons_succ, List.mapIdx_cons, List.mapIdx_nil, List.findIdx?_cons, List.findIdx?_nil, List.all_cons, List.all_nil, List.append_nil, List.cons_append, List.nil_append, List.replicate_succ, List.replicate_zero, Option.map_some, Option.map_none, List.nodup_cons, List.nodup_nil, List.not_mem_nil, Bool.and_true, Bool.true_and, Bool.and_self, Bool.not_true, Bool.not_false, if_true, if_false, reduceIte, reduceCtorEq, Nat.reduceAdd, Nat.reduceSub, Nat.reduceBEq, Nat.reduceEqDiff, decide_true, decide_false, and_true, true_and, or_false, false_or, not_false_eq_true, beq_self_eq_true, Bool.false_eq_true, Option.getD_some, Option.getD_none, Option.some.injEq, exists_eq_left', ne_self_iff_false, Nat.zero_add, Nat.reduceLeDiff, Int.reduceNeg, and_self]
        exact ⟨rfl, Ret.same h rfl⟩
      · refine ⟨_, atI_2 _ _ _ _, 23, rfl, by decide, by decide, ?_⟩
        simp only [ds_law_s6, dSeq, dNext, dAsg, dgName, dStore, dIfS, dTest_eq, tsD_bl, dOp, dVar, dC, dRet, dRetN, dNever, dBrk, dCnt, dAnd, dOr, dNot, dAndV_eq, dOrV_eq, dNotV_eq, dIf, dNil, dCons, dConsS, dArgs, avD, dCB, dCBO, dInt1_int, dInt2_int, dIntOf_int, dIntOf_bl, dTup, dLst, dFrz, dDrop, dEq_int, dNe_int, dI0_int, dI2_int, dLt_int, dLe_int, dGt_int, dGe_int, dIsN_non, dNotN_non, dIsB_bl, dNotB_bl, isNon_sq, isNon_non, isNon_int, isNon_bl, isNon_str, isNon_tup, isNon_lst, dIx_sq, dIx_tup, dIx_lst, dIx_fl, dIxO, ixO_m, dSetI, dMet, mApp, mPop, mPopAt, mIns, mClear, dPart, dNoPart, dSl_eq, slD_sq, slD_tup, slD_lst, slD_fl, dSlL, dListOf_sq, dListOf_tup, dListOf_lst, dTupOf_sq, dTupOf_tup, dTupOf_lst, dLen_sq, dLen_tup, dLen_lst, dLen_fl, dAdd_int, dAdd_tup, dAdd_lst, dAdd_str, dAddO, dAsgO, dStill, dOpen, dHide, dIsi_ii, dIsi_ib, dIsi_tt, dIsi_ll, dIsi_sq, dIsiT_row, dIsi_bb, dIsi_bi, dIsi_bt, dIsi_it, dIsi_il, dIsi_is, dIsi_nb, dIsi_ni, dIsi_nt, dIsi_nl, dIsi_ti, dIsi_tb, dIsi_tl, dIsi_ts, dIsi_li, dIsi_lb, dIsi_lt, dIsi_ls, dIsi_si, dIsi_sb, dIsi_st, dIsi_ss, dEq_bl, dNe_bl, dInRange, dRgB, dCall_of, dCallO_of, AV.ok, AV.sv, slotsOf, setIo_un, setIo_d, setIo_ol, setIo_op, setIo_ok, setIo_ot, own_un, own_d, own_ol, own_op, own_ok, own_ot, io_un, io_d, io_ol, io_op, io_ok, io_ot, putBack, AV.isSl, dgSeq, dgCons, dgNil, seqOf_sq, seqOf_tup', seqOf_lst, seqOf_fl, dLook, dLookT, lookAll, SV.look, dAugI, dAugL, dRetO, dRetV, dChain_eq, dNeg, dIter_eq, itD_sq, itD_tup, itD_lst, itD_fl, dRng1, dRng2, dRng3, dEnum_eq, enD_one, dZip, start0, dYes, ioAll, wipeS, List.mem_cons, List.not_mem_nil,  dSumA, dMaxA, dMinA, dAllA, dAnyA, dOnA, intsL_ints, blsL_bls, atI_0, atI_1, atI_2, atI_3, ixN_lit0, ixN_lit1, ixN_lit2, ixN_lit3,
  List.getElem?_cons_zero, List.getElem?_cons_succ, List.set_cons_zero, List.set_cons_succ, List.map_cons, List.map_nil, List.length_cons, List.length_nil, List.getD_cons_zero, List.getD_cons_succ, List.mapIdx_cons, List.mapIdx_nil, List.findIdx?_cons, List.findIdx?_nil, List.all_cons, List.all_nil, List.append_nil, List.cons_append, List.nil_append, List.replicate_succ, List.replicate_zero, Option.map_some, Option.map_none, List.nodup_cons, List.nodup_nil, List.not_mem_nil, Bool.and_true, Bool.true_and, Bool.and_self, Bool.not_true, Bool.not_false, if_true, if_false, reduceIte, reduceCtorEq, Nat.reduceAdd, Nat.reduceSub, Nat.reduceBEq, Nat.reduceEqDiff, decide_true, decide_false, and_true, true_and, or_false, false_or, not_false_eq_true, beq_self_eq_true, Bool.false_eq_true, Option.getD_some, Option.getD_none, Option.some.injEq, exists_eq_left', ne_self_iff_false, Nat.zero_add, Nat.reduceLeDiff, Int.reduceNeg, and_self]
        exact ⟨rfl, Ret.same h rfl⟩
      · refine ⟨_, atI_3 _ _ _ _ _, 24, rfl, by decide, by decide, ?_⟩
        simp only [ds_law_s6, dSeq, dNext, dAsg, dgName, dStore, dIfS, dTest_eq, tsD_bl, dOp, dVar, dC, dRet, dRetN, dNever, dBrk, dCnt, dAnd, dOr, dNot, dAndV_eq, dOrV_eq, dNotV_eq, dIf, dNil, dCons, dConsS, dArgs, avD, dCB, dCBO, dInt1_int, dInt2_int, dIntOf_int, dIntOf_bl, dTup, dLst, dFrz, dDrop, dEq_int, dNe_int, dI0_int, dI2_int, dLt_int, dLe_int, dGt_int, dGe_int, dIsN_non, dNotN_non, dIsB_bl, dNotB_bl, isNon_sq, isNon_non, isNon_int, isNon_bl, isNon_str, isNon_tup, isNon_lst, dIx_sq, dIx_tup, dIx_lst, dIx_fl, dIxO, ixO_m, dSetI, dMet, mApp, mPop, mPopAt, mIns, mClear, dPart, dNoPart, dSl_eq, slD_sq, slD_tup, slD_lst, slD_fl, dSlL, dListOf_sq, dListOf_tup, dListOf_lst, dTupOf_sq, dTupOf_tup, dTupOf_lst, dLen_sq, dLen_tup, dLen_lst, dLen_fl, dAdd_int, dAdd_tup, dAdd_lst, dAdd_str, dAddO, dAsgO, dStill, dOpen, dHide, dIsi_ii, dIsi_ib, dIsi_tt, dIsi_ll, dIsi_sq, dIsiT_row, dIsi_bb, dIsi_bi, dIsi_bt, dIsi_it, dIsi_il, dIsi_is, dIsi_nb, dIsi_ni, dIsi_nt, dIsi_nl, dIsi_ti, dIsi_tb, dIsi_tl, dIsi_ts, dIsi_li, dIsi_lb, dIsi_lt, dIsi_ls, dIsi_si, dIsi_sb, dIsi_st, dIsi_ss, dEq_bl, dNe_bl, dInRange, dRgB, dCall_of, dCallO_of, AV.ok, AV.sv, slotsOf, setIo_un, setIo_d, setIo_ol, setIo_op, setIo_ok, setIo_ot, own_un, own_d, own_ol, own_op, own_ok, own_ot, io_un, io_d, io_ol, io_op, io_ok, io_ot, putBack, AV.isSl, dgSeq, dgCons, dgNil, seqOf_sq, seqOf_tup', seqOf_lst, seqOf_fl, dLook, dLookT, lookAll, SV.look, dAugI, dAugL, dRetO, dRetV, dChain_eq, dNeg, dIter_eq, itD_sq, itD_tup, itD_lst, itD_fl, dRng1, dRng2, dRng3, dEnum_eq, enD_one, dZip, start0, dYes, ioAll, wipeS, List.mem_cons, List.not_mem_nil,  dSumA, dMaxA, dMinA, dAllA, dAnyA, dOnA, intsL_ints, blsL_bls, atI_0, atI_1, atI_2, atI_3, ixN_lit0, ixN_lit1, ixN_lit2, ixN_lit3,
  List.getElem?_cons_zero, List.getElem?_cons_succ, List.set_cons_zero, List.set_cons_succ, List.map_cons, List.map_nil, List.length_cons, List.length_nil, List.getD_cons_zero, List.getD_cons_succ, List.mapIdx_cons, List.mapIdx_nil, List.findIdx?_cons, List.findIdx?_nil, List.all_cons, List.all_nil, List.append_nil, List.cons_append, List.nil_append, List.replicate_succ, List.replicate_zero, Option.map_some, Option.map_none, List.nodup_cons, List.nodup_nil, List.not_mem_nil, Bool.and_true, Bool.true_and, Bool.and_self, Bool.not_true, Bool.not_false, if_true, if_false, reduceIte, reduceCtorEq, Nat.reduceAdd, Nat.reduceSub, Nat.reduceBEq, Nat.reduceEqDiff, decide_true, decide_false, and_true, true_and, or_false, false_or, not_false_eq_true, beq_self_eq_true, Bool.false_eq_true, Option.getD_some, Option.getD_none, Option.some.injEq, exists_eq_left', ne_self_iff_false, Nat.zero_add, Nat.reduceLeDiff, Int.reduceNeg, and_self]
        exact ⟨rfl, Ret.same h rfl⟩
end LW
namespace LW
open PySem PySem.Spec PyProof.Rows L2 DLU DLR DL HD

theorem ok__law_source {P : Program} {w : World} {K : PySem.W.Frag} {mg : Str → Option Value} {base : Heap} (B : Mg mg) (ER : Er P K mg)  {f : Addr} {fd : FuncData} (F : FunD K "_law_source" "_law_source" (defArgs s__law_source) (defBody s__law_source) (defScope s__law_source) [] [] f fd) : FnU P w K mg base false 1 f fd ["script"] (spOfO K S__law_source) :=
  fnRO F sc__law_source (dv__law_source B ER ) rd__law_source
theorem ok__law_same {P : Program} {w : World} {K : PySem.W.Frag} {mg : Str → Option Value} {base : Heap} (B : Mg mg) (ER : Er P K mg)  {f : Addr} {fd : FuncData} (F : FunD K "_law_same" "_law_same" (defArgs s__law_same) (defBody s__law_same) (defScope s__law_same) [] [] f fd) : FnU P w K mg base false 1 f fd ["actual", "due"] (spOf K S__law_same) :=
  fnR F sc__law_same (dv__law_same B ER ) rd__law_same
theorem ok_within {P : Program} {w : World} {K : PySem.W.Frag} {mg : Str → Option Value} {base : Heap} (B : Mg mg) (ER : Er P K mg)  {f : Addr} {fd : FuncData} (F : FunD K "within" "within" (defArgs s_within) (defBody s_within) (defScope s_within) [] [] f fd) : FnU P w K mg base false 1 f fd ["one", "other"] (spOf K S_within) :=
  fnR F sc_within (dv_within B ER ) rd_within
theorem ok_lies_in {P : Program} {w : World} {K : PySem.W.Frag} {mg : Str → Option Value} {base : Heap} (B : Mg mg) (ER : Er P K mg) (c_within : Fn P w K mg base false "within" 1 ["one", "other"] [] S_within) {f : Addr} {fd : FuncData} (F : FunD K "lies_in" "lies_in" (defArgs s_lies_in) (defBody s_lies_in) (defScope s_lies_in) [] [] f fd) : FnU P w K mg base false 2 f fd ["one", "other"] (spOf K S_lies_in) :=
  fnR F sc_lies_in (dv_lies_in B ER c_within) rd_lies_in
theorem ok_meets {P : Program} {w : World} {K : PySem.W.Frag} {mg : Str → Option Value} {base : Heap} (B : Mg mg) (ER : Er P K mg)  {f : Addr} {fd : FuncData} (F : FunD K "meets" "meets" (defArgs s_meets) (defBody s_meets) (defScope s_meets) [] [] f fd) : FnU P w K mg base false 1 f fd ["one", "other"] (spOf K S_meets) :=
  fnR F sc_meets (dv_meets B ER ) rd_meets
theorem ok_common_part {P : Program} {w : World} {K : PySem.W.Frag} {mg : Str → Option Value} {base : Heap} (B : Mg mg) (ER : Er P K mg) (c_meets : Fn P w K mg base false "meets" 1 ["one", "other"] [] S_meets) {f : Addr} {fd : FuncData} (F : FunD K "common_part" "common_part" (defArgs s_common_part) (defBody s_common_part) (defScope s_common_part) [] [] f fd) : FnU P w K mg base false 2 f fd ["one", "other"] (spOf K S_common_part) :=
  fnR F sc_common_part (dv_common_part B ER c_meets) rd_common_part
theorem ok__law_scene {P : Program} {w : World} {K : PySem.W.Frag} {mg : Str → Option Value} {base : Heap} (B : Mg mg) (ER : Er P K mg) (c_lies_in : Fn P w K mg base false "lies_in" 2 ["one", "other"] [] S_lies_in) (c_meets : Fn P w K mg base false "meets" 1 ["one", "other"] [] S_meets) (c__law_same : Fn P w K mg base false "_law_same" 1 ["actual", "due"] [] S__law_same) (c_common_part : Fn P w K mg base false "common_part" 2 ["one", "other"] [] S_common_part) {f : Addr} {fd : FuncData} (F : FunD K "_law_scene" "_law_scene" (defArgs s__law_scene) (defBody s__law_scene) (defScope s__law_scene) [] [] f fd) : FnU P w K mg base false 3 f fd [] (spOf K S__law_scene) :=
  fnR F sc__law_scene (dv__law_scene B ER c_lies_in c_meets c__law_same c_common_part) rd__law_scene
theorem ok__law_draw {P : Program} {w : World} {K : PySem.W.Frag} {mg : Str → Option Value} {base : Heap} (B : Mg mg) (ER : Er P K mg)  {f : Addr} {fd : FuncData} (F : FunD K "_law_draw" "_law_draw" (defArgs s__law_draw) (defBody s__law_draw) (defScope s__law_draw) [] [] f fd) : FnU P w K mg base false 1 f fd ["source", "many"] (spOf K S__law_draw) :=
  fnR F sc__law_draw (dv__law_draw B ER ) rd__law_draw
theorem ok__law_pair {P : Program} {w : World} {K : PySem.W.Frag} {mg : Str → Option Value} {base : Heap} (B : Mg mg) (ER : Er P K mg) (c__law_draw : Fn P w K mg base false "_law_draw" 1 ["source", "many"] [] S__law_draw) {f : Addr} {fd : FuncData} (F : FunD K "_law_pair" "_law_pair" (defArgs s__law_pair) (defBody s__law_pair) (defScope s__law_pair) [] [] f fd) : FnU P w K mg base false 2 f fd ["source", "size"] (spOf K S__law_pair) :=
  fnR F sc__law_pair (dv__law_pair B ER c__law_draw) rd__law_pair
theorem ok__law_beside {P : Program} {w : World} {K : PySem.W.Frag} {mg : Str → Option Value} {base : Heap} (B : Mg mg) (ER : Er P K mg) (c__law_draw : Fn P w K mg base false "_law_draw" 1 ["source", "many"] [] S__law_draw) (c__law_pair : Fn P w K mg base false "_law_pair" 2 ["source", "size"] [] S__law_pair) {f : Addr} {fd : FuncData} (F : FunD K "_law_beside" "_law_beside" (defArgs s__law_beside) (defBody s__law_beside) (defScope s__law_beside) [] [] f fd) : FnU P w K mg base false 3 f fd ["source", "size", "pair"] (spOf K S__law_beside) :=
  fnR F sc__law_beside (dv__law_beside B ER c__law_draw c__law_pair) rd__law_beside
theorem ok_is_from_to {P : Program} {w : World} {K : PySem.W.Frag} {mg : Str → Option Value} {base : Heap} (B : Mg mg) (ER : Er P K mg)  {f : Addr} {fd : FuncData} (F : FunD K "is_from_to" "is_from_to" (defArgs s_is_from_to) (defBody s_is_from_to) (defScope s_is_from_to) [] [] f fd) : FnU P w K mg base false 1 f fd ["value", "least", "most"] (spOf K S_is_from_to) :=
  fnR F sc_is_from_to (dv_is_from_to B ER ) rd_is_from_to
theorem ok_check_number {P : Program} {w : World} {K : PySem.W.Frag} {mg : Str → Option Value} {base : Heap} (B : Mg mg) (ER : Er P K mg) (c_is_from_to : Fn P w K mg base false "is_from_to" 1 ["value", "least", "most"] [] S_is_from_to) {f : Addr} {fd : FuncData} (F : FunD K "check_number" "check_number" (defArgs s_check_number) (defBody s_check_number) (defScope s_check_number) [] [] f fd) : FnU P w K mg base false 2 f fd ["value", "least", "most"] (spOf K S_check_number) :=
  fnR F sc_check_number (dv_check_number B ER c_is_from_to) rd_check_number
theorem ok_spans_of {P : Program} {w : World} {K : PySem.W.Frag} {mg : Str → Option Value} {base : Heap} (B : Mg mg) (ER : Er P K mg)  {f : Addr} {fd : FuncData} (F : FunD K "spans_of" "spans_of" (defArgs s_spans_of) (defBody s_spans_of) (defScope s_spans_of) [] [] f fd) : FnU P w K mg base false 1 f fd ["periods"] (spOf K S_spans_of) :=
  fnR F sc_spans_of (dv_spans_of B ER ) rd_spans_of
theorem ok_all_spans {P : Program} {w : World} {K : PySem.W.Frag} {mg : Str → Option Value} {base : Heap} (B : Mg mg) (ER : Er P K mg) (c_check_number : Fn P w K mg base false "check_number" 2 ["value", "least", "most"] [] S_check_number) (c_spans_of : Fn P w K mg base false "spans_of" 1 ["periods"] [] S_spans_of) {f : Addr} {fd : FuncData} (F : FunD K "all_spans" "all_spans" (defArgs s_all_spans) (defBody s_all_spans) (defScope s_all_spans) [] [] f fd) : FnU P w K mg base false 3 f fd ["periods"] (spOf K S_all_spans) :=
  fnR F sc_all_spans (dv_all_spans B ER c_check_number c_spans_of) rd_all_spans
theorem ok__law_refused {P : Program} {w : World} {K : PySem.W.Frag} {mg : Str → Option Value} {base : Heap} (B : Mg mg) (ER : Er P K mg) (c_all_spans : Fn P w K mg base false "all_spans" 3 ["periods"] [] S_all_spans) {f : Addr} {fd : FuncData} (F : FunD K "_law_refused" "_law_refused" (defArgs s__law_refused) (defBody s__law_refused) (defScope s__law_refused) [] [] f fd) : FnU P w K mg base false 4 f fd ["odd"] (spOf K S__law_refused) :=
  fnR F sc__law_refused (dv__law_refused B ER c_all_spans) rd__law_refused
theorem ok__law_all {P : Program} {w : World} {K : PySem.W.Frag} {mg : Str → Option Value} {base : Heap} (B : Mg mg) (ER : Er P K mg) (c_all_spans : Fn P w K mg base false "all_spans" 3 ["periods"] [] S_all_spans) (c__law_same : Fn P w K mg base false "_law_same" 1 ["actual", "due"] [] S__law_same) {f : Addr} {fd : FuncData} (F : FunD K "_law_all" "_law_all" (defArgs s__law_all) (defBody s__law_all) (defScope s__law_all) [] [] f fd) : FnU P w K mg base false 4 f fd ["periods"] (spOf K S__law_all) :=
  fnR F sc__law_all (dv__law_all B ER c_all_spans c__law_same) rd__law_all
theorem ok__law_periods {P : Program} {w : World} {K : PySem.W.Frag} {mg : Str → Option Value} {base : Heap} (B : Mg mg) (ER : Er P K mg)  {f : Addr} {fd : FuncData} (F : FunD K "_law_periods" "_law_periods" (defArgs s__law_periods) (defBody s__law_periods) (defScope s__law_periods) [] [] f fd) : FnU P w K mg base false 1 f fd ["pair"] (spOf K S__law_periods) :=
  fnR F sc__law_periods (dv__law_periods B ER ) rd__law_periods
theorem ok__law_two {P : Program} {w : World} {K : PySem.W.Frag} {mg : Str → Option Value} {base : Heap} (B : Mg mg) (ER : Er P K mg) (c__law_periods : Fn P w K mg base false "_law_periods" 1 ["pair"] [] S__law_periods) (c_lies_in : Fn P w K mg base false "lies_in" 2 ["one", "other"] [] S_lies_in) (c_meets : Fn P w K mg base false "meets" 1 ["one", "other"] [] S_meets) (c__law_same : Fn P w K mg base false "_law_same" 1 ["actual", "due"] [] S__law_same) (c_common_part : Fn P w K mg base false "common_part" 2 ["one", "other"] [] S_common_part) {f : Addr} {fd : FuncData} (F : FunD K "_law_two" "_law_two" (defArgs s__law_two) (defBody s__law_two) (defScope s__law_two) [] [] f fd) : FnU P w K mg base false 3 f fd ["one", "other", "way"] (spOf K S__law_two) :=
  fnR F sc__law_two (dv__law_two B ER c__law_periods c_lies_in c_meets c__law_same c_common_part) rd__law_two
theorem ok_law {P : Program} {w : World} {K : PySem.W.Frag} {mg : Str → Option Value} {base : Heap} (B : Mg mg) (ER : Er P K mg) (c__law_source : FnO P w K mg base false "_law_source" 1 ["script"] [] S__law_source) (c__law_draw : Fn P w K mg base false "_law_draw" 1 ["source", "many"] [] S__law_draw) (c__law_pair : Fn P w K mg base false "_law_pair" 2 ["source", "size"] [] S__law_pair) (c__law_beside : Fn P w K mg base false "_law_beside" 3 ["source", "size", "pair"] [] S__law_beside) (c__law_two : Fn P w K mg base false "_law_two" 3 ["one", "other", "way"] [] S__law_two) (c__law_refused : Fn P w K mg base false "_law_refused" 4 ["odd"] [] S__law_refused) (c__law_all : Fn P w K mg base false "_law_all" 4 ["periods"] [] S__law_all) (c__law_scene : Fn P w K mg base false "_law_scene" 3 [] [] S__law_scene) {f : Addr} {fd : FuncData} (F : FunD K "law" "law" (defArgs s_law) (defBody s_law) (defScope s_law) [] [] f fd) : FnU P w K mg base false 5 f fd ["script"] (spOf K S_law) :=
  fnR F sc_law (dv_law B ER c__law_source c__law_draw c__law_pair c__law_beside c__law_two c__law_refused c__law_all c__law_scene) rd_law
theorem facts {P : Program} {w : World} {K : PySem.W.Frag} {h : Heap} {mg : Str → Option Value} {f : Addr} (X : K.In h) (G : h.Ns mainGlobals mg) (hfa : mg ("law" : Str) = some (.ref f)) (c0 : DLE.SaysE HD.fa HD.fn HD.es HD.cs HD.file K) (hP1 : (P.main.file : Str) = HD.file) (hP2 : (P.main.scope.names.lookup ("super" : Str)).isSome = false) :
    ∃ fd : FuncData, (∀ (s : Shared) (v : Value), BindsTo s fd ⟨[v], []⟩ [("script", v)]) ∧ ∀ base : Heap, K.In base → base.Ns mainGlobals mg → FnU P w K mg base false 5 f fd ["script"] (spOf K lawS) := by
  have c := c0.d
  have B : Mg mg := ⟨He.free_ok X G (c.fact 22 (f := .free "ValueError") rfl), He.free_ok X G (c.fact 23 (f := .free "bool") rfl), He.free_ok X G (c.fact 24 (f := .free "int") rfl), He.free_ok X G (c.fact 25 (f := .free "isinstance") rfl), He.free_ok X G (c.fact 26 (f := .free "len") rfl), He.free_ok X G (c.fact 27 (f := .free "list") rfl), He.free_ok X G (c.fact 28 (f := .free "max") rfl), He.free_ok X G (c.fact 29 (f := .free "min") rfl), He.free_ok X G (c.fact 30 (f := .free "range") rfl), He.free_ok X G (c.fact 31 (f := .free "repr") rfl), He.free_ok X G (c.fact 33 (f := .free "tuple") rfl), He.int_ok X G (c.fact 2 (f := .int "MOST_PERIODS" 24) rfl), trivial⟩
  have ee_InvalidNumber := c0.e HD.e_InvalidNumber (by repeat (first | exact List.mem_cons_self | apply List.mem_cons_of_mem))
  have ask : AskOk K errs := by
    intro nm h
    simp only [errs, List.mem_cons, List.not_mem_nil, or_false] at h
    rcases h with rfl
    · exact DLE.ErrD.ask ee_InvalidNumber.1
  have ER : Er P K mg := ⟨DLE.ErrD.errC (d := HD.e_InvalidNumber) hP1 ee_InvalidNumber.2 ee_InvalidNumber.1,
    He.glo_ok X G (c.fact 1 (f := .glo "InvalidNumber") rfl),
    (DLE.relB_ok (c0.r "InvalidNumber" (by repeat (first | exact List.mem_cons_self | apply List.mem_cons_of_mem)))).1,
    (DLE.relB_ok (c0.r "InvalidNumber" (by repeat (first | exact List.mem_cons_self | apply List.mem_cons_of_mem)))).2,
    He.glo_ok X G (c.fact 0 (f := .glo "SlotError") rfl),
    (DLE.relB_ok (c0.r "SlotError" (by repeat (first | exact List.mem_cons_self | apply List.mem_cons_of_mem)))).1,
    (DLE.relB_ok (c0.r "SlotError" (by repeat (first | exact List.mem_cons_self | apply List.mem_cons_of_mem)))).2,
    (DLE.relB_ok (c0.r "ValueError" (by repeat (first | exact List.mem_cons_self | apply List.mem_cons_of_mem)))).2,
    ⟨He.free_ok X G (c.fact 32 (f := .free "super") rfl), hP2, c0.s⟩,
    ask⟩
  obtain ⟨fd__law_source, F__law_source⟩ := c.def_ 8 (d := HD.d__law_source) rfl
  have g__law_source : mg "_law_source" = some (.ref (He.ga K "_law_source")) := He.glo_ok X G (c.fact 11 (f := .glo "_law_source") rfl)
  have c__law_source : ∀ base : Heap, FnO P w K mg base false "_law_source" 1 ["script"] [] S__law_source := fun base => ⟨_, fd__law_source, [], ok__law_source B ER  F__law_source, g__law_source, F__law_source.kp, .nil, F__law_source.bindsN fun _ _ _ _ _ _ us hl => match us, hl with | [_], _ => rfl, fun _ => .nil⟩
  obtain ⟨fd__law_same, F__law_same⟩ := c.def_ 13 (d := HD.d__law_same) rfl
  have g__law_same : mg "_law_same" = some (.ref (He.ga K "_law_same")) := He.glo_ok X G (c.fact 16 (f := .glo "_law_same") rfl)
  have c__law_same : ∀ base : Heap, Fn P w K mg base false "_law_same" 1 ["actual", "due"] [] S__law_same := fun base => ⟨_, fd__law_same, [], ok__law_same B ER  F__law_same, g__law_same, F__law_same.kp, .nil, F__law_same.bindsN fun _ _ _ _ _ _ us hl => match us, hl with | [_, _], _ => rfl, fun _ => .nil⟩
  obtain ⟨fd_within, F_within⟩ := c.def_ 3 (d := HD.d_within) rfl
  have g_within : mg "within" = some (.ref (He.ga K "within")) := He.glo_ok X G (c.fact 6 (f := .glo "within") rfl)
  have c_within : ∀ base : Heap, Fn P w K mg base false "within" 1 ["one", "other"] [] S_within := fun base => ⟨_, fd_within, [], ok_within B ER  F_within, g_within, F_within.kp, .nil, F_within.bindsN fun _ _ _ _ _ _ us hl => match us, hl with | [_, _], _ => rfl, fun _ => .nil⟩
  obtain ⟨fd_lies_in, F_lies_in⟩ := c.def_ 5 (d := HD.d_lies_in) rfl
  have g_lies_in : mg "lies_in" = some (.ref (He.ga K "lies_in")) := He.glo_ok X G (c.fact 8 (f := .glo "lies_in") rfl)
  have c_lies_in : ∀ base : Heap, Fn P w K mg base false "lies_in" 2 ["one", "other"] [] S_lies_in := fun base => ⟨_, fd_lies_in, [], ok_lies_in B ER (c_within base) F_lies_in, g_lies_in, F_lies_in.kp, .nil, F_lies_in.bindsN fun _ _ _ _ _ _ us hl => match us, hl with | [_, _], _ => rfl, fun _ => .nil⟩
  obtain ⟨fd_meets, F_meets⟩ := c.def_ 6 (d := HD.d_meets) rfl
  have g_meets : mg "meets" = some (.ref (He.ga K "meets")) := He.glo_ok X G (c.fact 9 (f := .glo "meets") rfl)
  have c_meets : ∀ base : Heap, Fn P w K mg base false "meets" 1 ["one", "other"] [] S_meets := fun base => ⟨_, fd_meets, [], ok_meets B ER  F_meets, g_meets, F_meets.kp, .nil, F_meets.bindsN fun _ _ _ _ _ _ us hl => match us, hl with | [_, _], _ => rfl, fun _ => .nil⟩
  obtain ⟨fd_common_part, F_common_part⟩ := c.def_ 7 (d := HD.d_common_part) rfl
  have g_common_part : mg "common_part" = some (.ref (He.ga K "common_part")) := He.glo_ok X G (c.fact 10 (f := .glo "common_part") rfl)
  have c_common_part : ∀ base : Heap, Fn P w K mg base false "common_part" 2 ["one", "other"] [] S_common_part := fun base => ⟨_, fd_common_part, [], ok_common_part B ER (c_meets base) F_common_part, g_common_part, F_common_part.kp, .nil, F_common_part.bindsN fun _ _ _ _ _ _ us hl => match us, hl with | [_, _], _ => rfl, fun _ => .nil⟩
  obtain ⟨fd__law_scene, F__law_scene⟩ := c.def_ 17 (d := HD.d__law_scene) rfl
  have g__law_scene : mg "_law_scene" = some (.ref (He.ga K "_law_scene")) := He.glo_ok X G (c.fact 20 (f := .glo "_law_scene") rfl)
  have c__law_scene : ∀ base : Heap, Fn P w K mg base false "_law_scene" 3 [] [] S__law_scene := fun base => ⟨_, fd__law_scene, [], ok__law_scene B ER (c_lies_in base) (c_meets base) (c__law_same base) (c_common_part base) F__law_scene, g__law_scene, F__law_scene.kp, .nil, F__law_scene.bindsN fun _ _ _ _ _ _ us hl => match us, hl with | [], _ => rfl, fun _ => .nil⟩
  obtain ⟨fd__law_draw, F__law_draw⟩ := c.def_ 9 (d := HD.d__law_draw) rfl
  have g__law_draw : mg "_law_draw" = some (.ref (He.ga K "_law_draw")) := He.glo_ok X G (c.fact 12 (f := .glo "_law_draw") rfl)
  have c__law_draw : ∀ base : Heap, Fn P w K mg base false "_law_draw" 1 ["source", "many"] [] S__law_draw := fun base => ⟨_, fd__law_draw, [], ok__law_draw B ER  F__law_draw, g__law_draw, F__law_draw.kp, .nil, F__law_draw.bindsN fun _ _ _ _ _ _ us hl => match us, hl with | [_, _], _ => rfl, fun _ => .nil⟩
  obtain ⟨fd__law_pair, F__law_pair⟩ := c.def_ 10 (d := HD.d__law_pair) rfl
  have g__law_pair : mg "_law_pair" = some (.ref (He.ga K "_law_pair")) := He.glo_ok X G (c.fact 13 (f := .glo "_law_pair") rfl)
  have c__law_pair : ∀ base : Heap, Fn P w K mg base false "_law_pair" 2 ["source", "size"] [] S__law_pair := fun base => ⟨_, fd__law_pair, [], ok__law_pair B ER (c__law_draw base) F__law_pair, g__law_pair, F__law_pair.kp, .nil, F__law_pair.bindsN fun _ _ _ _ _ _ us hl => match us, hl with | [_, _], _ => rfl, fun _ => .nil⟩
  obtain ⟨fd__law_beside, F__law_beside⟩ := c.def_ 11 (d := HD.d__law_beside) rfl
  have g__law_beside : mg "_law_beside" = some (.ref (He.ga K "_law_beside")) := He.glo_ok X G (c.fact 14 (f := .glo "_law_beside") rfl)
  have c__law_beside : ∀ base : Heap, Fn P w K mg base false "_law_beside" 3 ["source", "size", "pair"] [] S__law_beside := fun base => ⟨_, fd__law_beside, [], ok__law_beside B ER (c__law_draw base) (c__law_pair base) F__law_beside, g__law_beside, F__law_beside.kp, .nil, F__law_beside.bindsN fun _ _ _ _ _ _ us hl => match us, hl with | [_, _, _], _ => rfl, fun _ => .nil⟩
  obtain ⟨fd_is_from_to, F_is_from_to⟩ := c.def_ 0 (d := HD.d_is_from_to) rfl
  have g_is_from_to : mg "is_from_to" = some (.ref (He.ga K "is_from_to")) := He.glo_ok X G (c.fact 3 (f := .glo "is_from_to") rfl)
  have c_is_from_to : ∀ base : Heap, Fn P w K mg base false "is_from_to" 1 ["value", "least", "most"] [] S_is_from_to := fun base => ⟨_, fd_is_from_to, [], ok_is_from_to B ER  F_is_from_to, g_is_from_to, F_is_from_to.kp, .nil, F_is_from_to.bindsN fun _ _ _ _ _ _ us hl => match us, hl with | [_, _, _], _ => rfl, fun _ => .nil⟩
  obtain ⟨fd_check_number, F_check_number⟩ := c.def_ 1 (d := HD.d_check_number) rfl
  have g_check_number : mg "check_number" = some (.ref (He.ga K "check_number")) := He.glo_ok X G (c.fact 4 (f := .glo "check_number") rfl)
  have c_check_number : ∀ base : Heap, Fn P w K mg base false "check_number" 2 ["value", "least", "most"] [] S_check_number := fun base => ⟨_, fd_check_number, [], ok_check_number B ER (c_is_from_to base) F_check_number, g_check_number, F_check_number.kp, .nil, F_check_number.bindsN fun _ _ _ _ _ _ us hl => match us, hl with | [_, _, _], _ => rfl, fun _ => .nil⟩
  obtain ⟨fd_spans_of, F_spans_of⟩ := c.def_ 2 (d := HD.d_spans_of) rfl
  have g_spans_of : mg "spans_of" = some (.ref (He.ga K "spans_of")) := He.glo_ok X G (c.fact 5 (f := .glo "spans_of") rfl)
  have c_spans_of : ∀ base : Heap, Fn P w K mg base false "spans_of" 1 ["periods"] [] S_spans_of := fun base => ⟨_, fd_spans_of, [], ok_spans_of B ER  F_spans_of, g_spans_of, F_spans_of.kp, .nil, F_spans_of.bindsN fun _ _ _ _ _ _ us hl => match us, hl with | [_], _ => rfl, fun _ => .nil⟩
  obtain ⟨fd_all_spans, F_all_spans⟩ := c.def_ 4 (d := HD.d_all_spans) rfl
  have g_all_spans : mg "all_spans" = some (.ref (He.ga K "all_spans")) := He.glo_ok X G (c.fact 7 (f := .glo "all_spans") rfl)
  have c_all_spans : ∀ base : Heap, Fn P w K mg base false "all_spans" 3 ["periods"] [] S_all_spans := fun base => ⟨_, fd_all_spans, [], ok_all_spans B ER (c_check_number base) (c_spans_of base) F_all_spans, g_all_spans, F_all_spans.kp, .nil, F_all_spans.bindsN fun _ _ _ _ _ _ us hl => match us, hl with | [_], _ => rfl, fun _ => .nil⟩
  obtain ⟨fd__law_refused, F__law_refused⟩ := c.def_ 16 (d := HD.d__law_refused) rfl
  have g__law_refused : mg "_law_refused" = some (.ref (He.ga K "_law_refused")) := He.glo_ok X G (c.fact 19 (f := .glo "_law_refused") rfl)
  have c__law_refused : ∀ base : Heap, Fn P w K mg base false "_law_refused" 4 ["odd"] [] S__law_refused := fun base => ⟨_, fd__law_refused, [], ok__law_refused B ER (c_all_spans base) F__law_refused, g__law_refused, F__law_refused.kp, .nil, F__law_refused.bindsN fun _ _ _ _ _ _ us hl => match us, hl with | [_], _ => rfl, fun _ => .nil⟩
  obtain ⟨fd__law_all, F__law_all⟩ := c.def_ 15 (d := HD.d__law_all) rfl
  have g__law_all : mg "_law_all" = some (.ref (He.ga K "_law_all")) := He.glo_ok X G (c.fact 18 (f := .glo "_law_all") rfl)
  have c__law_all : ∀ base : Heap, Fn P w K mg base false "_law_all" 4 ["periods"] [] S__law_all := fun base => ⟨_, fd__law_all, [], ok__law_all B ER (c_all_spans base) (c__law_same base) F__law_all, g__law_all, F__law_all.kp, .nil, F__law_all.bindsN fun _ _ _ _ _ _ us hl => match us, hl with | [_], _ => rfl, fun _ => .nil⟩
  obtain ⟨fd__law_periods, F__law_periods⟩ := c.def_ 12 (d := HD.d__law_periods) rfl
  have g__law_periods : mg "_law_periods" = some (.ref (He.ga K "_law_periods")) := He.glo_ok X G (c.fact 15 (f := .glo "_law_periods") rfl)
  have c__law_periods : ∀ base : Heap, Fn P w K mg base false "_law_periods" 1 ["pair"] [] S__law_periods := fun base => ⟨_, fd__law_periods, [], ok__law_periods B ER  F__law_periods, g__law_periods, F__law_periods.kp, .nil, F__law_periods.bindsN fun _ _ _ _ _ _ us hl => match us, hl with | [_], _ => rfl, fun _ => .nil⟩
  obtain ⟨fd__law_two, F__law_two⟩ := c.def_ 14 (d := HD.d__law_two) rfl
  have g__law_two : mg "_law_two" = some (.ref (He.ga K "_law_two")) := He.glo_ok X G (c.fact 17 (f := .glo "_law_two") rfl)
  have c__law_two : ∀ base : Heap, Fn P w K mg base false "_law_two" 3 ["one", "other", "way"] [] S__law_two := fun base => ⟨_, fd__law_two, [], ok__law_two B ER (c__law_periods base) (c_lies_in base) (c_meets base) (c__law_same base) (c_common_part base) F__law_two, g__law_two, F__law_two.kp, .nil, F__law_two.bindsN fun _ _ _ _ _ _ us hl => match us, hl with | [_, _, _], _ => rfl, fun _ => .nil⟩
  obtain ⟨fd_law, F_law⟩ := c.def_ 18 (d := HD.d_law) rfl
  have e := hfa.symm.trans (He.glo_ok X G (c.fact 21 (f := .glo "law") rfl))
  cases e
  have b := FunD.bindsA (ps := ["script"]) F_law fun _ _ _ _ _ _ us hl => match us, hl with | [_], _ => rfl
  exact ⟨fd_law, fun s v => b s [v] rfl, fun base _ _ => ok_law B ER (c__law_source base) (c__law_draw base) (c__law_pair base) (c__law_beside base) (c__law_two base) (c__law_refused base) (c__law_all base) (c__law_scene base) F_law⟩
end LW
open PySem PySem.W PySem.Calls PyProof.Rows
theorem PySem.Challenge.cw_slotspromised_k00_spans_by_their_periods_holds : PySem.Challenge.rw_slotspromised_k00_spans_by_their_periods.Holds := by
  w_on; o_law
  refine HandSHeadRun.head_any (r := OpenLaw.row PySem.Challenge.rw_slotspromised_k00_spans_by_their_periods) (q := HD.qv) (H := HD.hk) (ob := HD.ob) (M := 20000) (loose := HD.names) (d := HandSHeadRun.topDef (OpenLaw.row PySem.Challenge.rw_slotspromised_k00_spans_by_their_periods).prog 25) (kwd := []) HD.ob_eq
    (by kernel_rfl) (fun s => by kernel_rfl) HD.run (by kernel_rfl) (by kernel_rfl) (by kernel_rfl) (by rfl) (by first | assumption | decide +kernel) (by decide +kernel) ⟨rfl, rfl, rfl, rfl, rfl, by decide +kernel⟩ ?hw ?hc
  case hw => w_witness2
  case hc =>
    refine DLU.walk_ofU (l := PySem.Challenge.rw_slotspromised_k00_spans_by_their_periods) (n := 63) (k := 5) (x := "script") (hot := false) rfl (by decide) (by kernel_rfl) ⟨by decide, by decide, rfl⟩ ?F
    intro w mg fa h Y G hmg0
    obtain ⟨K, KX, c⟩ := Y
    have hmg : mg ("law" : PySem.Str) = some (.ref fa) := by
      have e : (HandSHeadRun.topDef (OpenLaw.row PySem.Challenge.rw_slotspromised_k00_spans_by_their_periods).prog 25).name = ("law" : PySem.Str) := by kernel_rfl
      rw [← e]
      exact hmg0
    obtain ⟨fd, hb, hF⟩ := LW.facts (P := (PySem.Challenge.rw_slotspromised_k00_spans_by_their_periods).prog) (w := w) KX G hmg c rfl (by kernel_rfl)
    exact ⟨K, fd, DL.spOf K DL.lawS, KX, hb, fun H a ns hl _ hS => DL.law_sp H a ns hl hS, hF⟩
