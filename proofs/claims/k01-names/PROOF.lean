import PyProof.Rows.All
import Wide.All
import OpenK.AllK
import Wide.FinOn
import HandS.ForMost
import HandS.Wide
import HandS.WideMore
import HandS.Evl
import HandS.Walk
import PyProof.ReprRoads
import PySem.Challenge.RW_fewvouch_k01_names_of_letters
set_option Elab.async false
set_option linter.all false
set_option maxRecDepth 100000
set_option maxHeartbeats 4000000
namespace GX
open PySem L2 PySem.Spec PyProof.Rows

/-! ### promises where no repr is under way -/
structure FnG (P : Program) (w : World) (K : PySem.W.Frag) (mg : Str → Option Value)
    (base : Heap) (CX : CXT) (k : Nat) (f : Addr) (fd : FuncData)
    (ps : List Str) (sp : Sp) : Prop where
  len : ∀ vs H Q E, sp vs H Q E → vs.length = ps.length
  run : ∀ (A : Around) (outer : List Env) (s : Shared) (H : Hp) (args : Args)
      (us : List Value) (vs : List V) (Q : VK) (E : XK), A.guards = some [] → Room k A →
      Env0 P w K mg base A outer s H → BindsTo s fd args (ps.zip us) → Vals vs us →
      sp vs H Q E → codeAny (model P w) A (.call (.ref f) args) (CR CX outer P w H s Q E) s

theorem FnG.mono {P : Program} {w : World} {K : PySem.W.Frag} {mg : Str → Option Value}
    {base : Heap} {CX : CXT} {j k : Nat} {f : Addr} {fd : FuncData} {ps : List Str} {sp : Sp}
    (F : FnG P w K mg base CX j f fd ps sp) (h : j ≤ k) : FnG P w K mg base CX k f fd ps sp where
  len := F.len
  run := fun A outer s H args us vs Q E g hr =>
    F.run A outer s H args us vs Q E g (hr.mono h)

section
variable {P : Program} {w : World} {K : PySem.W.Frag} {mg : Str → Option Value} {base : Heap}

theorem fnG_of {CX : CXT} {k : Nat} {f : Addr} {name qual : Str} {params : Arguments}
    {body : List Stmt} {scope : Scope} {dV kV doc pm cdv ct oc : Value} {an od : Option Addr}
    {osl : Array (Option Value)} {N ps : List Str} {sp : Sp}
    (lk : K.lookup f = some ⟨oc, od, .func
      (PySem.W.fnOf name qual params body scope dV kV doc pm an cdv ct), osl⟩)
    (hcd : PySem.W.codeIn K cdv qual = true) (S : FnScope N ps scope)
    (len : ∀ vs H Q E, sp vs H Q E → vs.length = ps.length)
    (hbody : ∀ (A : Around) (outer : List Env) (s : Shared) (H : Hp) (vs : List V)
      (Q : VK) (E : XK), A.guards = some [] →
      Room k (A.deeper (envOfC qual scope s.heap.objs.size f cdv)) → sp vs H Q E →
      ∃ t, PSs (cxOf CX P w K mg base N qual scope f cdv A outer s H E) body t ∧
        t { nx := fun _ H' => Q .non H', rt := Q } (start N vs) H) :
    FnG P w K mg base CX (k + 1) f
      (PySem.W.fnOf name qual params body scope dV kV doc pm an cdv ct) ps sp := by
  refine ⟨len, ?_⟩
  intro A outer s H args us vs Q E hg hr e0 hb r hsp
  have hl := len vs H Q E hsp
  have KX : K.In s.heap := e0.mod.kin.keeps (fun b o e => (e0.bs b o e).1)
  have lim := e0.mod.nolimit.keeps (fun b o e => (e0.bs b o e).1)
  have hkind : ∀ y ∈ ps.zip us, scope.names.lookup y.1 = some .local ∨
      (scope.names.lookup y.1 = some .cell ∧
        ((cellsFrom (s.heap.objs.size + 1) scope.names []).lookup y.1).isSome = true) := by
    rintro ⟨n, v⟩ hy
    rcases S.par n (List.of_mem_zip hy).1 with q | q
    · exact Or.inl q
    · exact Or.inr ⟨q, PySem.W.cellsFrom_some _ _ _ (Or.inl q)⟩
  refine codeAny_call_function hr.depth (KX _ _ lk) rfl S.co S.gen rfl
    (PySem.W.codeRec_of KX hcd) (hb _ _ _ _ ?_)
  refine wpAny_newFunctionEnv_cells S.kind hkind ?_
  intro env he s1 x
  subst he
  refine ⟨lim.keeps x.toInCall.keep, codeAny_func ?_⟩
  obtain ⟨t, ht, hq⟩ := hbody A outer s H vs Q E hg (hr.deeper _) hsp
  have I : Inv (cxOf CX P w K mg base N qual scope f cdv A outer s H E) []
      (start N vs) H s1 := inv_start S hr.hd e0 hl r x
  refine wpAny_mono (ht.run [] s1 (start N vs) H _ I hq) ?_ (fun e s' hs => hs)
  intro fl s' hs
  have fin : ∀ {σ' : L2.St} {H' : Hp} {v : V} {u : Value},
      Inv (cxOf CX P w K mg base N qual scope f cdv A outer s H E) [] σ' H' s' →
      RelV v u → Q v H' → CE outer P w H s Q u s' := by
    intro σ' H' v u J rv q
    exact ⟨v, H', J.os, J.bare, J.base, J.hok, rv, q⟩
  cases fl with
  | ret u =>
    obtain ⟨v, σ', H', J, rv, q⟩ := hs
    exact fin J rv q
  | next =>
    obtain ⟨σ', H', J, q⟩ := hs
    exact fin (v := V.non) (u := Value.none) J rfl q
  | brk => exact hs.elim fun _ z => z.elim fun _ z => z.2.elim
  | cont => exact hs.elim fun _ z => z.elim fun _ z => z.2.elim

/-- a def of the text that lets nothing out -/
theorem okG {x qual : Str} {st : Stmt} {f : Addr} {fd : FuncData} {N ps : List Str} {k : Nat}
    {sp : Sp} (F : Fun K x qual st f fd) (S : FnScope N ps (defScope st))
    (len : ∀ vs H Q E, sp vs H Q E → vs.length = ps.length)
    (hbody : ∀ (cdv : Value) (A : Around) (outer : List Env) (s : Shared) (H : Hp)
      (vs : List V) (Q : VK) (E : XK), A.guards = some [] →
      Room k (A.deeper (envOfC qual (defScope st) s.heap.objs.size f cdv)) → sp vs H Q E →
      ∃ t, PSs (cxOf CX0 P w K mg base N qual (defScope st) f cdv A outer s H E).nox
        (defBody st) t ∧ t { nx := fun _ H' => Q .non H', rt := Q } (start N vs) H) :
    FnG P w K mg base CX0 (k + 1) f fd ps sp := by
  obtain ⟨oc, od, kV, doc, pm, an, cdv, ct, osl, rfl, lk, hcd⟩ := F.ex
  refine fnG_of lk hcd S len ?_
  intro A outer s H vs Q E hg hr hsp
  obtain ⟨t, h, q⟩ := hbody cdv A outer s H vs Q E hg hr hsp
  exact ⟨t, h.nox, q⟩
end

section
variable {X : Cx} {CX : CXT} {k : Nat} {f C : Addr} {fd : FuncData} {ps : List Str} {sp : Sp}
  {dvs : List V} {ds : List Value} {E : XK} {x m : Str} {p pos apos : Pos} {e o : Expr}
  {es : List Expr} {ta : TE} {t : TA}

theorem run_fnG {pins : List (Addr × Obj)} {σ : L2.St} {H : Hp} {s : Shared} {Q : VK}
    {us : List Value} {vs : List V} (F : FnG X.prog X.w X.K X.mg X.base CX k f fd ps sp)
    (hg : X.A.guards = some []) (hr : Room k X.A) (hb : Binds X.K fd ps ds)
    (hd : Vals dvs ds) (hx : Passes CX X E) (I : Inv X pins σ H s) (r : Vals vs us)
    (h : sp (vs ++ dvs) H Q E) :
    wpAny (model X.prog X.w) X.A (call (.ref f) us) (EP X pins σ Q) X.xe s := by
  have r2 := r.append hd
  have hl : (us ++ ds).length = ps.length := r2.length ▸ F.len _ _ _ _ h
  have z := F.run X.A X.stack s H ⟨us, []⟩ (us ++ ds) (vs ++ dvs) Q E hg hr I.env0
    (hb s us I.kIn hl) r2 h
  refine wpAny_call (codeAny_mono z ?_)
  intro r s' hq
  match r, hq with
  | .error e, hq => exact hx pins σ H s e s' I hq
  | .ok (.ret u), hq => exact I.after hq

theorem pe_callG (F : FnG X.prog X.w X.K X.mg X.base CX k f fd ps sp)
    (hG : X.A.guards = some []) (hr : Room k X.A) (hg : Gl X x) (hm : X.mg x = some (.ref f))
    (hk : PySem.W.keepIn X.K (.ref f) = true) (hb : Binds X.K fd ps ds) (hd : Vals dvs ds)
    (hx : Passes CX X E) (ha : PA X (e :: es) t)
    (hdb : (x == ("__debug__" : Str)) = false := by decide)
    (he : starEach (e :: es) X.env = (false, eval e X.env) :: starEach es X.env := by rfl)
    (hpl : (backTo pos (starEach es X.env)).any (·.1) = false := by rfl) :
    PE X (.Call (.Name x p) (e :: es) [] pos) (tCall sp dvs E t) := by
  constructor
  intro pins s σ H Q I h
  refine wpAny_Call_Name_kw (ld_glob I hg hm ?_ hdb)
  refine PySem.W.callWith_K (h₀ := X.base) I.ok.mod.kin hk ?_ he hpl
  refine thn (ha.run pos pins s σ H _ I h) ?_
  rintro us s1 ⟨vs, H1, I1, r, q⟩
  exact ⟨I1.kIn, run_fnG F hG hr hb hd hx I1 r q⟩

theorem pe_call0G (F : FnG X.prog X.w X.K X.mg X.base CX k f fd ps sp)
    (hG : X.A.guards = some []) (hr : Room k X.A) (hg : Gl X x) (hm : X.mg x = some (.ref f))
    (hk : PySem.W.keepIn X.K (.ref f) = true) (hb : Binds X.K fd ps ds) (hd : Vals dvs ds)
    (hx : Passes CX X E) (hdb : (x == ("__debug__" : Str)) = false := by decide) :
    PE X (.Call (.Name x p) [] [] pos) (tCall sp dvs E tNil) := by
  constructor
  intro pins s σ H Q I h
  refine wpAny_Call_Name_kw (ld_glob I hg hm ?_ hdb)
  exact PySem.W.callWith_K0 I.kIn hk (run_fnG (us := []) F hG hr hb hd hx I .nil h)
end

/-! ### repr of data -/
theorem text_room : ∀ n : Nat, n + 64 ≤ 16777216 → n ≤ sizeLine := by
  intro n h
  rw [sizeLine_eq]
  omega
/-- repr(x), x data without dicts -/
def rRepr (K : PySem.W.Frag) : List V → Hp → VK → Prop := fun xs H Q =>
  ∃ (x : V) (d : PyData), xs = [x] ∧ Dp K H x d ∧ d.showable = true ∧ d.hasDict = false ∧
    d.depth ≤ 40 ∧ d.shown.length + 64 ≤ 16777216 ∧ Q (.str d.shown) H
theorem call_reprD {X : Cx} (hG : X.A.guards = some []) (hu : X.A.units + 64 < cLine) :
    CallR X (.builtin "repr") (rRepr X.K) := by
  intro pins s σ H xs us Q I r h
  obtain ⟨x, d, rfl, hd, hs, hn, hdep, hz, q⟩ := h
  have hz' := text_room _ hz
  cases r with
  | cons r1 r2 =>
    cases r2
    have big : ∀ (u : Addr), RelV x (.ref u) → wpAny (model X.prog X.w) X.A
        (call (.builtin "repr") [.ref u]) (EP X pins σ Q) X.xe s := by
      intro u ru
      obtain ⟨as, hr⟩ := Dp.reads I d x _ hd ru
      refine repr_of_reads' (h₀ := s.heap) hr hs (fun e => ?_) hG (by omega)
        (fun _ _ e => e) ?_ hz'
      · rw [hn] at e
        cases e
      · intro h' u' tk hk
        exact ⟨.str d.shown, H, I.kept hk, ⟨_, rfl⟩, q⟩
    cases hd with
    | non =>
      cases r1
      exact PySem.P.repr_of_none ⟨.str _, H, I.tok _, ⟨_, rfl⟩, by simpa only [PyData.shown] using q⟩
    | bl b =>
      cases r1
      exact PySem.P.repr_of_bool ⟨.str _, H, I.tok _, ⟨_, rfl⟩, by simpa only [PyData.shown] using q⟩
    | int i =>
      obtain ⟨tk, rfl⟩ := r1
      have hi : i.natAbs.log2 < 1920 := by simpa [PyData.showable] using hs
      exact PySem.P.repr_of_int hi ⟨.str _, H, I.tok _, ⟨_, rfl⟩, by simpa only [PyData.shown] using q⟩
    | str z =>
      obtain ⟨tk, rfl⟩ := r1
      exact PySem.P.repr_of_str ⟨.str _, H, I.tok _, ⟨_, rfl⟩, by simpa only [PyData.shown] using q⟩
        (by simpa only [PyData.shown] using hz')
    | lst h1 h2 =>
      cases r1
      exact big _ rfl
    | tup h1 h2 =>
      cases r1
      exact big _ rfl

/-! ### the law's head -/
section
variable {P : Program} {w : World} {K : PySem.W.Frag} {mg mb : Str → Option Value}
  {CX : CXT} {k : Nat} {fa a : Addr} {fd : FuncData} {x : Str} {sp : Sp} {s1 : Shared}
  {vs : List Value} {ns : List Int}

/-- what is asked of the law's call: True, and what stood stands -/
def LawEnd (s1 : Shared) (r : Result) (s' : Shared) : Prop :=
  r = .ok (.ret (.bool true)) ∧ OldK s1.heap s'.heap ∧ s'.os = s1.os ∧ AllBare s'.gens

theorem law_core (KX : K.In s1.heap) (hns : s1.heap.Ns mainGlobals mg)
    (hb : s1.heap.Ns builtinsNs mb) (hbb : ∀ y : Str, y ≠ "__name__" → mb y = bootBuiltins y)
    (hlim : s1.heap.NoLimit) (hgen : s1.gens = #[])
    (ha : s1.heap.get? a = some { cls := .type "list", data := .seq vs.toArray })
    (hr : Room k callerA)
    (F : ∀ base : Heap, K.In base → base.Ns mainGlobals mg →
      FnG P w K mg base CX k fa fd [x] sp)
    (hbind : ∀ (s : Shared) (u : Value), BindsTo s fd ⟨[u], []⟩ [(x, u)])
    (hsp : ∀ H : Hp, Only H → SqL K H a (ns.map V.int) →
      sp [.ref a] H (fun v _ => v = .bl true) fun _ _ _ => False)
    (hCX : ∀ H e s', CX [] H s1 (fun _ _ _ => False) e s' → False)
    (H : Hp) (hO : Only H) (hS : SqL K H a (ns.map V.int)) (hok : HOk P w H s1.heap)
    (hA : ∀ b, H b ≠ none → b = a) (hK : H a ≠ none → K.lookup a = none) :
    codeAny (model P w) callerA (.call (.ref fa) ⟨[.ref a], []⟩) (LawEnd s1) s1 := by
  have dict_free : ∀ {b : Addr} {o : Obj} {es : Array DictEntry} {ep : Nat},
      s1.heap.get? b = some o → o.data = .dict es ep → H b = none := by
    intro b o es ep e d
    cases q : H b with
    | none => rfl
    | some u =>
      have e' : b = a := hA b (by rw [q]; simp)
      subst e'
      rw [ha] at e
      cases e
      cases d
  have nsK : ∀ {b : Addr} {m : Str → Option Value}, s1.heap.Ns b m →
      (hidT s1.heap H).Ns b m := by
    rintro b m ⟨o, es, ep, e, d, r⟩
    exact ⟨o, es, ep, hidT_get e (dict_free e d), d, r⟩
  have hKb : K.In (hidT s1.heap H) := by
    intro b o e
    refine hidT_get (KX b o e) ?_
    cases q : H b with
    | none => rfl
    | some u =>
      have e' : b = a := hA b (by rw [q]; simp)
      subst e'
      rw [hK (by rw [q]; simp)] at e
      cases e
  have hlim' : (hidT s1.heap H).NoLimit := by
    obtain ⟨mc, h1, h2⟩ := hlim
    exact ⟨mc, nsK h1, h2⟩
  have hM : Mod K mg (hidT s1.heap H) := ⟨hKb, nsK hns, ⟨mb, nsK hb, hbb⟩, hlim'⟩
  have e0 : Env0 P w K mg (hidT s1.heap H) callerA [] s1 H := by
    refine ⟨rfl, hM, fun b o e => of_hidT e, Nat.le_of_eq (hidT_size _ _), trivial, ?_,
      hok, .of_eq hgen⟩
    intro b hb
    exact absurd (show b ∈ ([] : List Addr) from hb) (by simp)
  have z := (F _ hKb (nsK hns)).run callerA [] s1 H ⟨[.ref a], []⟩ [.ref a] [.ref a] _ _
    rfl hr e0 (hbind s1 (.ref a)) (.cons rfl .nil) (hsp H hO hS)
  refine codeAny_mono z ?_
  intro r s' h
  match r, h with
  | .error e, h => exact (hCX H e s' h).elim
  | .ok (.ret u), h =>
    obtain ⟨v, H', os, bare, un, hok', r', q⟩ := h
    have q' : v = .bl true := q
    subst q'
    obtain rfl : u = Value.bool true := r'
    refine ⟨rfl, OldK.of_keep ?_, os, bare⟩
    intro b o e
    cases q : H b with
    | none => exact un.keep b o e q (fun z => by cases z) (fun z => by cases z)
    | some u =>
      rcases hO b with z | ⟨ob, xs, z⟩
      · rw [q] at z
        cases z
      · have z2 := un.frzs b ob _ z
        obtain ⟨e1, _⟩ := hok b _ z
        obtain ⟨e2, _⟩ := hok' b _ z2
        rw [e] at e1
        cases e1
        exact e2

theorem law_callG (KX : K.In s1.heap) (hns : s1.heap.Ns mainGlobals mg)
    (hb : s1.heap.Ns builtinsNs mb) (hbb : ∀ y : Str, y ≠ "__name__" → mb y = bootBuiltins y)
    (hlim : s1.heap.NoLimit) (hgen : s1.gens = #[])
    (ha : s1.heap.get? a = some { cls := .type "list", data := .seq vs.toArray })
    (hi : IntsAre vs ns) (hl : ns.length ≤ sizeLine) (hr : Room k callerA)
    (F : ∀ base : Heap, K.In base → base.Ns mainGlobals mg →
      FnG P w K mg base CX k fa fd [x] sp)
    (hbind : ∀ (s : Shared) (u : Value), BindsTo s fd ⟨[u], []⟩ [(x, u)])
    (hsp : ∀ H : Hp, Only H → SqL K H a (ns.map V.int) →
      sp [.ref a] H (fun v _ => v = .bl true) fun _ _ _ => False)
    (hCX : ∀ H e s', CX [] H s1 (fun _ _ _ => False) e s' → False) :
    codeAny (model P w) callerA (.call (.ref fa) ⟨[.ref a], []⟩) (LawEnd s1) s1 := by
  have rv := vals_ints hi
  have lenV := hi.length
  have core := law_core (x := x) KX hns hb hbb hlim hgen ha hr F hbind hsp hCX
  cases hk : K.lookup a with
  | some o =>
    have e := KX a o hk
    rw [ha] at e
    cases e
    refine core (fun _ => none) (fun _ => .inl rfl) (.inr ?_) (fun b u z => ?_)
      (fun b z => absurd rfl z) (fun z => absurd rfl z)
    · exact ⟨_, vs.toArray, _, hk, rfl, rfl, rfl,
        by rw [List.size_toArray, lenV]; exact hl, by simpa using rv⟩
    · have z' : (none : Option HO) = some u := z
      cases z'
  | none =>
    let o0 : Obj := { cls := .type "list", data := .seq vs.toArray }
    let H : Hp := fun b => if b = a then some (.frz o0 (.lst (ns.map V.int))) else none
    have at_a : H a = some (.frz o0 (.lst (ns.map V.int))) := if_pos rfl
    have off : ∀ b, b ≠ a → H b = none := fun b h => if_neg h
    refine core H (fun b => ?_) (.inl (.inr ⟨o0, at_a⟩)) (fun b u z => ?_) (fun b z => ?_)
      (fun _ => hk)
    · by_cases h : b = a
      · subst h
        exact .inr ⟨_, _, at_a⟩
      · exact .inl (off b h)
    · by_cases h : b = a
      · subst h
        rw [at_a] at z
        cases z
        exact ⟨ha, by rw [List.length_map]; exact hl, vs, _, rv, ha⟩
      · rw [off b h] at z
        cases z
    · by_cases h : b = a
      · exact h
      · exact absurd (off b h) z
end

theorem walk_ofG {l : PySem.W.OpenLaw} {n k : Nat} {q : Program} {loose : List Str}
    {XP : (Str → Option Value) → Heap → Prop} {YP : World → Heap → Prop} {d : DefRec}
    {K : Params → PySem.W.Frag} {CX : World → CXT} {sp : World → Sp} {x : Str}
    (hn : l.most = some n) (hn2 : n ≤ sizeLine) (hdf : d.params.defaults = [])
    (hr : Room k callerA) (hY : ∀ (w : World) (h : Heap), YP w h → (K w.params).In h)
    (F : ∀ (w : World) (mg : Str → Option Value) (fa : Addr) (h : Heap),
      (K w.params).In h → h.Ns mainGlobals mg → mg d.name = some (.ref fa) →
      ∃ fd : FuncData, (∀ (s : Shared) (u : Value), BindsTo s fd ⟨[u], []⟩ [(x, u)]) ∧
        ∀ base : Heap, (K w.params).In base → base.Ns mainGlobals mg →
          FnG l.prog w (K w.params) mg base (CX w) k fa fd [x] (sp w))
    (hsp : ∀ (w : World) (H : Hp) (a : Addr) (ns : List Int), ns.length ≤ n → Only H →
      SqL (K w.params) H a (ns.map V.int) →
      sp w [.ref a] H (fun v _ => v = .bl true) fun _ _ _ => False)
    (hCX : ∀ (w : World) (H : Hp) (s : Shared) (e : Value) (s' : Shared),
      CX w [] H s (fun _ _ _ => False) e s' → False) :
    PySem.W.WalkO q loose XP YP l.row.toRowW d [] (fun f vs => PySem.call f vs) := by
  refine Att.attach_call hn hdf ?_
  intro w s₀ s₁ mg mb fa o pm cd doc a vs ns G Y ho hd hcd hmg hobj hints hlen hg
  have KX := hY w _ Y
  obtain ⟨fd, hb, hF⟩ := F w mg fa _ KX G.T.g hmg
  exact law_callG KX G.T.g G.T.b G.T.builtins G.T.nolimit hg hobj hints
    (Nat.le_trans hlen hn2) hr hF hb (fun H hO hS => hsp w H a ns hlen hO hS)
    (fun H e s' => hCX w H s₁ e s')
end GX

set_option Elab.async false
set_option linter.all false
set_option maxRecDepth 100000
set_option maxHeartbeats 4000000
namespace GX
open PySem L2 PySem.Spec
section
variable {K : PySem.W.Frag} {σ : L2.St} {H : Hp} {Q : VK} {D : Ends} {ta tb tc te : TE}
  {t u : TS} {c d : TT} {i j : Int} {x y v : V} {g : TG} {n : Nat} {r r' : R2}

/-! ### readings, one step each -/
theorem r_seq (h : t { D with nx := u D } σ H) : tSeq t u D σ H := h
theorem r_asg (h : te σ H fun x H1 => g x σ H1 D.nx) : tAsg te g D σ H := h
theorem r_name {R : L2.St → Hp → Prop} (h : R (σ.set n (some v)) H) : gName n v σ H R := h
theorem r_var (h : σ[n]? = some (some v)) (q : Q v H) : tVar n σ H Q := ⟨v, h, q⟩
theorem r_c (q : Q v H) : tC v σ H Q := q
theorem r_op (h : ta σ H fun x H1 => tb σ H1 fun y H2 => r x y H2 Q) : tOp r ta tb σ H Q := h
theorem r_un {f : V → Hp → VK → Prop} (h : ta σ H fun x H1 => f x H1 Q) : tUn f ta σ H Q := h
theorem r_I0 {f : Int → Int → V} (q : Q (f i j) H) : rI0 f (.int i) (.int j) H Q :=
  ⟨i, j, rfl, rfl, q⟩
theorem r_I {C : Int → Int → Prop} {f : Int → Int → V} (h : C i j) (q : Q (f i j) H) :
    rI C f (.int i) (.int j) H Q := ⟨i, j, rfl, rfl, h, q⟩
theorem r_U {f : Int → V} (q : Q (f i) H) : rU f (.int i) H Q := ⟨i, rfl, q⟩
theorem r_eq (h : scal x y = true) (q : Q (.bl (decide (x = y))) H) : rEq x y H Q := ⟨h, q⟩
theorem r_ne (h : scal x y = true) (q : Q (.bl (!decide (x = y))) H) : rNe x y H Q := ⟨h, q⟩
theorem r_ixL {p : Addr} {xs : List V} (h : SqL K H p xs) (e : atI xs i = some v) (q : Q v H) :
    rIxL K (.ref p) (.int i) H Q := ⟨p, xs, i, v, rfl, rfl, h, e, q⟩
theorem r_ixT {p : Addr} {xs : List V} (h : SqT K H p xs) (e : atI xs i = some v) (q : Q v H) :
    rIxT K (.ref p) (.int i) H Q := ⟨p, xs, i, v, rfl, rfl, h, e, q⟩
theorem r_ifS (h : c σ H fun b H1 => if b = true then t D σ H1 else u D σ H1) :
    tIfS c t u D σ H := h
theorem r_if (h : c σ H fun b H1 => if b = true then ta σ H1 Q else tb σ H1 Q) :
    tIf c ta tb σ H Q := h
theorem r_test {R : Bool → Hp → Prop} (h : te σ H fun x H1 => ∃ k, x = .bl k ∧ R k H1) :
    tTest te σ H R := h
theorem r_B {R : Bool → Hp → Prop} (h : te σ H fun x H1 => ∃ k, x = .bl k ∧ R k H1) :
    tB te σ H R := h
theorem r_and {R : Bool → Hp → Prop}
    (h : c σ H fun b H1 => if b = true then d σ H1 R else R false H1) : tAnd c d σ H R := h
theorem r_or {R : Bool → Hp → Prop}
    (h : c σ H fun b H1 => if b = true then R true H1 else d σ H1 R) : tOr c d σ H R := h
theorem r_not {R : Bool → Hp → Prop} (h : c σ H fun b H1 => R (!b) H1) : tNot c σ H R := h
theorem r_bl {R : Bool → Prop} {b : Bool} (h : R b) : ∃ k, V.bl b = V.bl k ∧ R k := ⟨b, rfl, h⟩
theorem r_ret (h : te σ H D.rt) : tRet te D σ H := h
theorem r_drop (h : te σ H fun _ H1 => D.nx σ H1) : tDrop te D σ H := h
theorem r_nil {R : List V → Hp → Prop} (h : R [] H) : tNil σ H R := h
theorem r_cons {tr : TA} {R : List V → Hp → Prop}
    (h : ta σ H fun x H1 => tr σ H1 fun xs H2 => R (x :: xs) H2) : tCons ta tr σ H R := h
theorem r_CB {f : List V → Hp → VK → Prop} {a : TA} (h : a σ H fun vs H1 => f vs H1 Q) :
    tCB f a σ H Q := h
theorem r_call {sp : Sp} {dvs : List V} {E : XK} {a : TA}
    (h : a σ H fun vs H1 => sp (vs ++ dvs) H1 Q E) : tCall sp dvs E a σ H Q := h
theorem r_int {S : Int → Prop} {B : Prop} (q : S i) : (∃ k, [V.int i] = [V.int k] ∧ S k) ∨ B :=
  .inl ⟨i, rfl, q⟩
theorem r_tup {a : TA} (h : a σ H fun xs H1 => xs.length ≤ sizeLine ∧
    ∀ p, H1 p = none → Q (.ref p) (upd H1 p (.tup xs))) : tTup a σ H Q := h
theorem r_lst {a : TA} (h : a σ H fun xs H1 => xs.length ≤ sizeLine ∧
    ∀ p, H1 p = none → Q (.ref p) (upd H1 p (.lst xs))) : tLst a σ H Q := h
theorem r_andV (h : ta σ H fun x H1 => ∃ b, x = .bl b ∧
    if b = true then tb σ H1 Q else Q (.bl false) H1) : tAndV ta tb σ H Q := h
theorem r_chain (h : ta σ H fun x H1 => tb σ H1 fun y H2 => r x y H2 fun z H3 =>
    ∃ k, z = .bl k ∧ if k = true then tc σ H3 fun w H4 => r' y w H4 Q else Q (.bl false) H3) :
    tChain r r' ta tb tc σ H Q := h
theorem r_sub {to ti : TE} {s : TSet} {R : L2.St → Hp → Prop}
    (h : to σ H fun o H1 => ti σ H1 fun k H2 => s o k v H2 fun H3 => R σ H3) :
    gSub to ti s v σ H R := h
theorem r_setL {p : Addr} {xs : List V} {m : Nat} {R : Hp → Prop} (h : H p = some (.lst xs))
    (e : ixN xs.length i = some m) (q : R (upd H p (.lst (xs.set m v)))) :
    rSetL (.ref p) (.int i) v H R := ⟨p, xs, i, m, rfl, rfl, h, e, q⟩
theorem r_cut (M : L2.St → Hp → Prop) (h : t { D with nx := M } σ H)
    (k : ∀ σ' H', M σ' H' → u D σ' H') : Evl.tCut t u D σ H := ⟨M, h, k⟩
theorem r_next (h : D.nx σ H) : tNext D σ H := h
theorem ite_t {A B : Prop} {b : Bool} (hb : b = true) (h : A) : if b = true then A else B := by
  rw [if_pos hb]
  exact h
theorem ite_f {A B : Prop} {b : Bool} (hb : b = false) (h : B) : if b = true then A else B := by
  rw [hb]
  exact h
theorem ite_b {A B : Prop} {b : Bool} (h1 : b = true → A) (h2 : b = false → B) :
    if b = true then A else B := by
  cases b with
  | true => exact h1 rfl
  | false => exact h2 rfl
end

/-! ### loops -/
/-- the turns of a for -/
def ForGo (g : TG) (tb : TS) (D : Ends) (J : It) (σ : L2.St) (H : Hp) : Prop :=
  ∃ W : Nat → Nat → L2.St → Hp → Prop, (∃ m, W 0 m σ H) ∧ ∀ i m σ H, W i m σ H →
    (J.stop i H ∧ D.nx σ H) ∨ (J.go i H ∧ ∃ N : L2.St → Hp → Prop,
      (∀ σ' H', N σ' H' → ∃ m', m' < m ∧ W (i + 1) m' σ' H') ∧
      ∀ x H', J.yld i H x H' → g x σ H' fun σ2 H2 =>
        tb { D with nx := N, ct := N, bk := D.nx } σ2 H2)
/-- the turns of a comprehension -/
def LcGo (g : TG) (tt : TT) (te : TE) (vs : List Nat) (σ : L2.St) (Q : VK) (J : It) (H1 : Hp) :
    Prop := ∀ D, H1 D = none → ∃ W : Nat → Nat → Hp → Prop,
  (∃ m, W 0 m (upd H1 D (.lst []))) ∧ ∀ i m H, W i m H →
    (J.stop i H ∧ Q (.ref D) H) ∨ (J.go i H ∧ ∃ Nx : Hp → Prop,
      (∀ H', Nx H' → ∃ m', m' < m ∧ W (i + 1) m' H') ∧
      ∀ x H', J.yld i H x H' → g x (wipe σ vs) H' fun σ2 H2 => wipe σ2 vs = wipe σ vs ∧
        tt σ2 H2 fun b H3 => if b = true then te σ2 H3 fun y H4 =>
          ∃ acc, H4 D = some (.lst acc) ∧ acc.length < sizeLine ∧
            Nx (upd H4 D (.lst (acc ++ [y]))) else Nx H3)
section
variable {K : PySem.W.Frag} {σ : L2.St} {H : Hp} {Q : VK} {D : Ends} {ta tb tc te tl : TE}
  {t u : TS} {tt : TT} {g : TG} {wi : TI} {R : It → Hp → Prop} {a : Addr} {xs : List V}
  {vs : List Nat}
theorem r_for (h : wi σ H fun J H1 => ForGo g t D J σ H1) : tFor wi g t D σ H := h
theorem r_lc (h : wi σ H fun J H1 => LcGo g tt te vs σ Q J H1) : tLc wi g tt te vs σ H Q := h
theorem r_iList (h : tl σ H fun x H1 => ∃ a, x = .ref a ∧ (∃ xs, SqL K H1 a xs) ∧
    R (Itl K a) H1) : iList K tl σ H R := h
theorem r_itl {S : Addr → Prop} (h : SqL K H a xs) (q : S a) :
    ∃ b, V.ref a = .ref b ∧ (∃ xs, SqL K H b xs) ∧ S b := ⟨a, rfl, ⟨xs, h⟩, q⟩
theorem r_iTup (h : tl σ H fun x H1 => ∃ a, x = .ref a ∧ (∃ xs, SqT K H1 a xs) ∧
    R (Itt K a) H1) : iTup K tl σ H R := h
theorem r_itt {S : Addr → Prop} (h : SqT K H a xs) (q : S a) :
    ∃ b, V.ref a = .ref b ∧ (∃ xs, SqT K H b xs) ∧ S b := ⟨a, rfl, ⟨xs, h⟩, q⟩
theorem r_iStr (h : tl σ H fun x H1 => ∃ z, x = .str z ∧ R (Its z) H1) : iStr tl σ H R := h
theorem r_its {z : Str} {S : Str → Prop} (q : S z) : ∃ y, V.str z = .str y ∧ S y := ⟨z, rfl, q⟩
theorem r_rng1 {ar : TA} (h : ar σ H fun vs H1 => ∃ j : Int, vs = [.int j] ∧
    -(2 ^ 62) ≤ j ∧ j < 2 ^ 62 ∧ R (Itr 0 j.toNat) H1) : iRng1 ar σ H R := h
theorem r_rg1 {j : Int} {S : Int → Prop} (h : -(2 ^ 62) ≤ j ∧ j < 2 ^ 62) (q : S j) :
    ∃ k : Int, [V.int j] = [.int k] ∧ -(2 ^ 62) ≤ k ∧ k < 2 ^ 62 ∧ S k := ⟨j, rfl, h.1, h.2, q⟩
theorem r_zip {ar : TA} (h : ar σ H fun vs H1 => ∃ a b xs ys, vs = [.ref a, .ref b] ∧
    SqL K H1 a xs ∧ SqL K H1 b ys ∧ R (Itz K a b) H1) : iZip K ar σ H R := h
theorem r_itz {b : Addr} {ys : List V} {S : Addr → Addr → Prop} (h1 : SqL K H a xs)
    (h2 : SqL K H b ys) (q : S a b) : ∃ a' b' xs ys, [V.ref a, .ref b] = [.ref a', .ref b'] ∧
    SqL K H a' xs ∧ SqL K H b' ys ∧ S a' b' := ⟨a, b, xs, ys, rfl, h1, h2, q⟩
theorem r_enum {ar : TA} (h : ar σ H fun vs H1 => ∃ a xs, vs = [.ref a] ∧
    SqL K H1 a xs ∧ R (Ite K a) H1) : iEnum K ar σ H R := h
theorem r_ite {S : Addr → Prop} (h1 : SqL K H a xs) (q : S a) :
    ∃ a' xs, [V.ref a] = [.ref a'] ∧ SqL K H a' xs ∧ S a' := ⟨a, xs, rfl, h1, q⟩

/-- a for by what holds behind each turn -/
theorem for_go {J : It} {n : Nat} {G : Hp → Prop} {Y : Nat → Hp → V → Hp → Prop}
    (w : Walk J n G Y) (Pv : Nat → L2.St → Hp → Prop) (h0 : Pv 0 σ H)
    (hG : ∀ i σ H, i ≤ n → Pv i σ H → G H)
    (hs : ∀ i x σ H H', i < n → Pv i σ H → Y i H x H' → g x σ H' fun σ2 H2 =>
      t { D with nx := Pv (i + 1), ct := Pv (i + 1), bk := D.nx } σ2 H2)
    (hd : ∀ σ H, Pv n σ H → D.nx σ H) : ForGo g t D J σ H := for_it w Pv h0 hG hs hd
/-- the list at D, of at most n items, and what is told of it -/
def LcIn (D : Addr) (Pv : List V → Hp → Prop) (n : Nat) (H : Hp) : Prop :=
  ∃ acc, acc.length ≤ n ∧ H D = some (.lst acc) ∧ Pv acc H
theorem lc_put {D : Addr} {Pv : List V → Hp → Prop} {i : Nat} {acc : List V} {y : V}
    (h : H D = some (.lst acc)) (hl : acc.length ≤ i) (hi : i < 1000000)
    (p : Pv (acc ++ [y]) (upd H D (.lst (acc ++ [y])))) :
    ∃ acc, H D = some (.lst acc) ∧ acc.length < sizeLine ∧
      LcIn D Pv (i + 1) (upd H D (.lst (acc ++ [y]))) := by
  have big : (1000000 : Nat) < sizeLine := by decide
  refine ⟨acc, h, by omega, acc ++ [y], ?_, upd_same, p⟩
  rw [List.length_append]
  exact Nat.succ_le_succ hl
theorem lc_skip {D : Addr} {Pv : List V → Hp → Prop} {i : Nat} {acc : List V}
    (h : H D = some (.lst acc)) (hl : acc.length ≤ i) (p : Pv acc H) : LcIn D Pv (i + 1) H :=
  ⟨acc, Nat.le_succ_of_le hl, h, p⟩
/-- a comprehension, its list so far told -/
theorem lc_go {J : It} {n : Nat} {G : Hp → Prop} {Y : Nat → Hp → V → Hp → Prop}
    (w : Walk J n G Y) (Pv : Addr → Nat → List V → Hp → Prop)
    (h0 : ∀ D, H D = none → Pv D 0 [] (upd H D (.lst [])))
    (hG : ∀ D i acc H', i ≤ n → H D = none → Pv D i acc H' → G H')
    (hs : ∀ D i acc x H1 H2, i < n → H D = none → acc.length ≤ i → H1 D = some (.lst acc) →
      Pv D i acc H1 → Y i H1 x H2 → g x (wipe σ vs) H2 fun σ2 H3 => wipe σ2 vs = wipe σ vs ∧
        tt σ2 H3 fun b H4 => if b = true then te σ2 H4 fun y H5 =>
          ∃ acc, H5 D = some (.lst acc) ∧ acc.length < sizeLine ∧
            LcIn D (Pv D (i + 1)) (i + 1) (upd H5 D (.lst (acc ++ [y])))
          else LcIn D (Pv D (i + 1)) (i + 1) H4)
    (hd : ∀ D acc H', H D = none → acc.length ≤ n → Pv D n acc H' → H' D = some (.lst acc) →
      Q (.ref D) H') : LcGo g tt te vs σ Q J H := by
  intro D hD
  refine lc_it w (fun i H' => LcIn D (Pv D i) i H')
    ⟨[], Nat.le_refl _, upd_same, h0 D hD⟩ ?_ ?_ ?_
  · rintro i H' hi ⟨acc, _, _, p⟩
    exact hG D i acc H' hi hD p
  · rintro i x H1 H2 hi ⟨acc, hl, hA, p⟩ y
    exact hs D i acc x H1 H2 hi hD hl hA p y
  · rintro H' ⟨acc, hl, hA, p⟩
    exact hd D acc H' hD hl p hA
end
section
variable {σ : L2.St} {H : Hp} {Q : VK} {te : TE} {v : V}
theorem r_sl {f : V → Option Int → Option Int → Hp → VK → Prop} {tl th : TO}
    (h : te σ H fun x H1 => tl σ H1 fun l H2 => th σ H2 fun u H3 => f x l u H3 Q) :
    tSl f te tl th σ H Q := h
theorem r_part {R : Option Int → Hp → Prop}
    (h : te σ H fun x H1 => ∃ i, x = .int i ∧ R (some i) H1) : tPart te σ H R := h
theorem r_prt {R : Int → Prop} {i : Int} (h : R i) : ∃ k, V.int i = .int k ∧ R k := ⟨i, rfl, h⟩
theorem r_nopart {R : Option Int → Hp → Prop} (h : R none H) : tNoPart σ H R := h
theorem r_slL {K : PySem.W.Frag} {a : Addr} {xs : List V} {l u : Option Int} (h : SqL K H a xs)
    (q : ∀ p, H p = none → Q (.ref p) (upd H p (.lst (cutV xs l u)))) :
    rSlL K (.ref a) l u H Q := ⟨a, xs, rfl, h, q⟩
theorem r_slS {z : Str} {l u : Option Int} (h : z.length ≤ sizeLine) (q : Q (.str (cutS z l u)) H) :
    rSlS (.str z) l u H Q := ⟨z, rfl, h, q⟩
theorem r_M1 {f : V → List V → Hp → VK → Prop} {to : TE}
    (h : to σ H fun x H1 => (∃ a, x = .str a) ∧ te σ H1 fun y H2 => f x [y] H2 Q) :
    tM1 f to te σ H Q := h
theorem r_M0 {f : V → List V → Hp → VK → Prop} {to : TE}
    (h : to σ H fun x H1 => (∃ a, x = .str a) ∧ f x [] H1 Q) : tM0 f to σ H Q := h
theorem r_isS {S : Prop} {z : Str} (h : S) : (∃ a, V.str z = .str a) ∧ S := ⟨⟨z, rfl⟩, h⟩
theorem r_BM {K : PySem.W.Frag} {T : String} {f : V → List V → Hp → VK → Prop} {to : TE} {t : TA}
    (h : to σ H fun x H1 => tyV K T x H1 ∧ t σ H1 fun xs H2 => f x xs H2 Q) :
    tBM K T f to t σ H Q := h
theorem r_BM0 {K : PySem.W.Frag} {T : String} {f : V → List V → Hp → VK → Prop} {to : TE}
    (h : to σ H fun x H1 => tyV K T x H1 ∧ f x [] H1 Q) : tBM0 K T f to σ H Q := h
theorem r_tyL {K : PySem.W.Frag} {S : Prop} {p : Addr} {xs : List V} (h : SqL K H p xs) (q : S) :
    tyV K "list" (.ref p) H ∧ S := ⟨.inl ⟨rfl, xs, h⟩, q⟩
theorem r_app {p : Addr} {xs : List V} {y : V} (h : H p = some (.lst xs)) (hz : xs.length ≤ 1000000)
    (q : Q .non (upd H p (.lst (xs ++ [y])))) : rAppend (.ref p) [y] H Q :=
  ⟨p, xs, y, rfl, rfl, h, Nat.lt_of_le_of_lt hz (by decide), q⟩
theorem r_addS {S : Str → Str → Prop} {x y : Str} (h : x.length + y.length ≤ 1000000) (q : S x y) :
    ∃ i j, V.str x = .str i ∧ V.str y = .str j ∧ i.length + j.length ≤ sizeLine ∧ S i j :=
  ⟨x, y, rfl, rfl, Nat.le_trans h (by decide), q⟩
theorem r_lenS {S : Str → Prop} {z : Str} (h : z.length ≤ 1000000) (q : S z) :
    ∃ y, [V.str z] = [.str y] ∧ y.length ≤ sizeLine ∧ S y := ⟨z, rfl, Nat.le_trans h (by decide), q⟩
theorem r_yes {R : Bool → Hp → Prop} (h : R true H) : tYes σ H R := h
end

section
variable {K : PySem.W.Frag} {σ : L2.St} {H : Hp} {Q : VK} {D : Ends} {te : TE}
  {t : TS} {tt : TT} {g : TG} {a b : Addr} {vs : List Nat}
theorem for_L (xs : List V) (Pv : Nat → L2.St → Hp → Prop) (h0 : Pv 0 σ H)
    (hG : ∀ i σ H, i ≤ xs.length → Pv i σ H → SqL K H a xs)
    (hs : ∀ i x σ H, xs[i]? = some x → Pv i σ H → g x σ H fun σ2 H2 =>
      t { D with nx := Pv (i + 1), ct := Pv (i + 1), bk := D.nx } σ2 H2)
    (hd : ∀ σ H, Pv xs.length σ H → D.nx σ H) : ForGo g t D (Itl K a) σ H :=
  for_go (walk_list (xs := xs)) Pv h0 hG (fun i x σ H H' hi p y => by obtain ⟨rfl, e⟩ := y; exact hs i x σ H' e p) hd
theorem for_T (xs : List V) (Pv : Nat → L2.St → Hp → Prop) (h0 : Pv 0 σ H)
    (hG : ∀ i σ H, i ≤ xs.length → Pv i σ H → SqT K H a xs)
    (hs : ∀ i x σ H, xs[i]? = some x → Pv i σ H → g x σ H fun σ2 H2 =>
      t { D with nx := Pv (i + 1), ct := Pv (i + 1), bk := D.nx } σ2 H2)
    (hd : ∀ σ H, Pv xs.length σ H → D.nx σ H) : ForGo g t D (Itt K a) σ H :=
  for_go (walk_tup (xs := xs)) Pv h0 hG (fun i x σ H H' hi p y => by obtain ⟨rfl, e⟩ := y; exact hs i x σ H' e p) hd
theorem for_R (lo : Int) (n : Nat) (Pv : Nat → L2.St → Hp → Prop) (h0 : Pv 0 σ H)
    
    (hs : ∀ i σ H, i < n → Pv i σ H → g (V.int (lo + (i : Nat))) σ H fun σ2 H2 =>
      t { D with nx := Pv (i + 1), ct := Pv (i + 1), bk := D.nx } σ2 H2)
    (hd : ∀ σ H, Pv n σ H → D.nx σ H) : ForGo g t D (Itr lo n) σ H :=
  for_go (walk_range (lo := lo) (n := n)) Pv h0 (fun _ _ _ _ _ => trivial) (fun i x σ H H' hi p y => by obtain ⟨rfl, rfl⟩ := y; exact hs i σ H' hi p) hd
theorem for_S (z : Str) (Pv : Nat → L2.St → Hp → Prop) (h0 : Pv 0 σ H)
    
    (hs : ∀ i c σ H, z.cps[i]? = some c → Pv i σ H → g (V.str ⟨#[c]⟩) σ H fun σ2 H2 =>
      t { D with nx := Pv (i + 1), ct := Pv (i + 1), bk := D.nx } σ2 H2)
    (hd : ∀ σ H, Pv z.cps.size σ H → D.nx σ H) : ForGo g t D (Its z) σ H :=
  for_go (walk_str (z := z)) Pv h0 (fun _ _ _ _ _ => trivial) (fun i x σ H H' hi p y => by obtain ⟨rfl, c, e, rfl⟩ := y; exact hs i c σ H' e p) hd
theorem for_E (xs : List V) (Pv : Nat → L2.St → Hp → Prop) (h0 : Pv 0 σ H)
    (hG : ∀ i σ H, i ≤ xs.length → Pv i σ H → SqL K H a xs)
    (hs : ∀ i x σ H q, xs[i]? = some x → Pv i σ H → H q = none → g (V.ref q) σ (upd H q (.tup [.int (i : Nat), x])) fun σ2 H2 =>
      t { D with nx := Pv (i + 1), ct := Pv (i + 1), bk := D.nx } σ2 H2)
    (hd : ∀ σ H, Pv xs.length σ H → D.nx σ H) : ForGo g t D (Ite K a) σ H :=
  for_go (walk_enum (xs := xs)) Pv h0 hG (fun i x σ H H' hi p y => by obtain ⟨q, u, v, rfl, hq, rfl, h1, h2⟩ := y; cases h1; exact hs i v σ H q h2 p hq) hd
theorem for_Z (xs ys : List V) (n : Nat) (hn : n = min xs.length ys.length) (Pv : Nat → L2.St → Hp → Prop) (h0 : Pv 0 σ H)
    (hG : ∀ i σ H, i ≤ n → Pv i σ H → SqL K H a xs ∧ SqL K H b ys)
    (hs : ∀ i x y σ H q, xs[i]? = some x → ys[i]? = some y → Pv i σ H → H q = none → g (V.ref q) σ (upd H q (.tup [x, y])) fun σ2 H2 =>
      t { D with nx := Pv (i + 1), ct := Pv (i + 1), bk := D.nx } σ2 H2)
    (hd : ∀ σ H, Pv n σ H → D.nx σ H) : ForGo g t D (Itz K a b) σ H :=
  for_go (walk_zip (xs := xs) (ys := ys) hn) Pv h0 hG (fun i x σ H H' hi p y => by obtain ⟨q, u, v, rfl, hq, rfl, h1, h2⟩ := y; exact hs i u v σ H q h1 h2 p hq) hd
theorem lc_L (xs : List V) (Pv : Addr → Nat → List V → Hp → Prop)
    (h0 : ∀ D, H D = none → Pv D 0 [] (upd H D (.lst [])))
    (hG : ∀ D i acc H', i ≤ xs.length → H D = none → Pv D i acc H' → SqL K H' a xs)
    (hs : ∀ D i acc x H', xs[i]? = some x → H D = none → acc.length ≤ i → H' D = some (.lst acc) → Pv D i acc H' → g x (wipe σ vs) H' fun σ2 H3 => wipe σ2 vs = wipe σ vs ∧
      tt σ2 H3 fun b H4 => if b = true then te σ2 H4 fun y H5 =>
        ∃ acc, H5 D = some (.lst acc) ∧ acc.length < sizeLine ∧
          LcIn D (Pv D (i + 1)) (i + 1) (upd H5 D (.lst (acc ++ [y])))
        else LcIn D (Pv D (i + 1)) (i + 1) H4)
    (hd : ∀ D acc H', H D = none → acc.length ≤ xs.length → Pv D xs.length acc H' →
      H' D = some (.lst acc) → Q (.ref D) H') : LcGo g tt te vs σ Q (Itl K a) H :=
  lc_go (walk_list (xs := xs)) Pv h0 hG (fun D i acc x H1 H2 hi hD hl hA p y => by obtain ⟨rfl, e⟩ := y; exact hs D i acc x _ e hD hl hA p) hd
theorem lc_T (xs : List V) (Pv : Addr → Nat → List V → Hp → Prop)
    (h0 : ∀ D, H D = none → Pv D 0 [] (upd H D (.lst [])))
    (hG : ∀ D i acc H', i ≤ xs.length → H D = none → Pv D i acc H' → SqT K H' a xs)
    (hs : ∀ D i acc x H', xs[i]? = some x → H D = none → acc.length ≤ i → H' D = some (.lst acc) → Pv D i acc H' → g x (wipe σ vs) H' fun σ2 H3 => wipe σ2 vs = wipe σ vs ∧
      tt σ2 H3 fun b H4 => if b = true then te σ2 H4 fun y H5 =>
        ∃ acc, H5 D = some (.lst acc) ∧ acc.length < sizeLine ∧
          LcIn D (Pv D (i + 1)) (i + 1) (upd H5 D (.lst (acc ++ [y])))
        else LcIn D (Pv D (i + 1)) (i + 1) H4)
    (hd : ∀ D acc H', H D = none → acc.length ≤ xs.length → Pv D xs.length acc H' →
      H' D = some (.lst acc) → Q (.ref D) H') : LcGo g tt te vs σ Q (Itt K a) H :=
  lc_go (walk_tup (xs := xs)) Pv h0 hG (fun D i acc x H1 H2 hi hD hl hA p y => by obtain ⟨rfl, e⟩ := y; exact hs D i acc x _ e hD hl hA p) hd
theorem lc_R (lo : Int) (n : Nat) (Pv : Addr → Nat → List V → Hp → Prop)
    (h0 : ∀ D, H D = none → Pv D 0 [] (upd H D (.lst [])))
    
    (hs : ∀ D i acc H', i < n → H D = none → acc.length ≤ i → H' D = some (.lst acc) → Pv D i acc H' → g (V.int (lo + (i : Nat))) (wipe σ vs) H' fun σ2 H3 => wipe σ2 vs = wipe σ vs ∧
      tt σ2 H3 fun b H4 => if b = true then te σ2 H4 fun y H5 =>
        ∃ acc, H5 D = some (.lst acc) ∧ acc.length < sizeLine ∧
          LcIn D (Pv D (i + 1)) (i + 1) (upd H5 D (.lst (acc ++ [y])))
        else LcIn D (Pv D (i + 1)) (i + 1) H4)
    (hd : ∀ D acc H', H D = none → acc.length ≤ n → Pv D n acc H' →
      H' D = some (.lst acc) → Q (.ref D) H') : LcGo g tt te vs σ Q (Itr lo n) H :=
  lc_go (walk_range (lo := lo) (n := n)) Pv h0 (fun _ _ _ _ _ _ _ => trivial) (fun D i acc x H1 H2 hi hD hl hA p y => by obtain ⟨rfl, rfl⟩ := y; exact hs D i acc _ hi hD hl hA p) hd
theorem lc_S (z : Str) (Pv : Addr → Nat → List V → Hp → Prop)
    (h0 : ∀ D, H D = none → Pv D 0 [] (upd H D (.lst [])))
    
    (hs : ∀ D i acc c H', z.cps[i]? = some c → H D = none → acc.length ≤ i → H' D = some (.lst acc) → Pv D i acc H' → g (V.str ⟨#[c]⟩) (wipe σ vs) H' fun σ2 H3 => wipe σ2 vs = wipe σ vs ∧
      tt σ2 H3 fun b H4 => if b = true then te σ2 H4 fun y H5 =>
        ∃ acc, H5 D = some (.lst acc) ∧ acc.length < sizeLine ∧
          LcIn D (Pv D (i + 1)) (i + 1) (upd H5 D (.lst (acc ++ [y])))
        else LcIn D (Pv D (i + 1)) (i + 1) H4)
    (hd : ∀ D acc H', H D = none → acc.length ≤ z.cps.size → Pv D z.cps.size acc H' →
      H' D = some (.lst acc) → Q (.ref D) H') : LcGo g tt te vs σ Q (Its z) H :=
  lc_go (walk_str (z := z)) Pv h0 (fun _ _ _ _ _ _ _ => trivial) (fun D i acc x H1 H2 hi hD hl hA p y => by obtain ⟨rfl, c, e, rfl⟩ := y; exact hs D i acc c _ e hD hl hA p) hd
theorem lc_E (xs : List V) (Pv : Addr → Nat → List V → Hp → Prop)
    (h0 : ∀ D, H D = none → Pv D 0 [] (upd H D (.lst [])))
    (hG : ∀ D i acc H', i ≤ xs.length → H D = none → Pv D i acc H' → SqL K H' a xs)
    (hs : ∀ D i acc x H' q, xs[i]? = some x → H D = none → acc.length ≤ i → H' D = some (.lst acc) → Pv D i acc H' → H' q = none → g (V.ref q) (wipe σ vs) (upd H' q (.tup [.int (i : Nat), x])) fun σ2 H3 => wipe σ2 vs = wipe σ vs ∧
      tt σ2 H3 fun b H4 => if b = true then te σ2 H4 fun y H5 =>
        ∃ acc, H5 D = some (.lst acc) ∧ acc.length < sizeLine ∧
          LcIn D (Pv D (i + 1)) (i + 1) (upd H5 D (.lst (acc ++ [y])))
        else LcIn D (Pv D (i + 1)) (i + 1) H4)
    (hd : ∀ D acc H', H D = none → acc.length ≤ xs.length → Pv D xs.length acc H' →
      H' D = some (.lst acc) → Q (.ref D) H') : LcGo g tt te vs σ Q (Ite K a) H :=
  lc_go (walk_enum (xs := xs)) Pv h0 hG (fun D i acc x H1 H2 hi hD hl hA p y => by obtain ⟨q, u, v, rfl, hq, rfl, h1, h2⟩ := y; cases h1; exact hs D i acc v _ q h2 hD hl hA p hq) hd
theorem lc_Z (xs ys : List V) (n : Nat) (hn : n = min xs.length ys.length) (Pv : Addr → Nat → List V → Hp → Prop)
    (h0 : ∀ D, H D = none → Pv D 0 [] (upd H D (.lst [])))
    (hG : ∀ D i acc H', i ≤ n → H D = none → Pv D i acc H' → SqL K H' a xs ∧ SqL K H' b ys)
    (hs : ∀ D i acc x y H' q, xs[i]? = some x → ys[i]? = some y → H D = none → acc.length ≤ i → H' D = some (.lst acc) → Pv D i acc H' → H' q = none → g (V.ref q) (wipe σ vs) (upd H' q (.tup [x, y])) fun σ2 H3 => wipe σ2 vs = wipe σ vs ∧
      tt σ2 H3 fun b H4 => if b = true then te σ2 H4 fun y H5 =>
        ∃ acc, H5 D = some (.lst acc) ∧ acc.length < sizeLine ∧
          LcIn D (Pv D (i + 1)) (i + 1) (upd H5 D (.lst (acc ++ [y])))
        else LcIn D (Pv D (i + 1)) (i + 1) H4)
    (hd : ∀ D acc H', H D = none → acc.length ≤ n → Pv D n acc H' →
      H' D = some (.lst acc) → Q (.ref D) H') : LcGo g tt te vs σ Q (Itz K a b) H :=
  lc_go (walk_zip (xs := xs) (ys := ys) hn) Pv h0 hG (fun D i acc x H1 H2 hi hD hl hA p y => by obtain ⟨q, u, v, rfl, hq, rfl, h1, h2⟩ := y; exact hs D i acc u v _ q h1 h2 hD hl hA p hq) hd
end

/-! ### frames -/
/-- all but what stands at a is as it was -/
def But (a : Addr) (H H' : Hp) : Prop := ∀ b, b ≠ a → H' b = H b
theorem But.refl (a : Addr) (H : Hp) : But a H H := fun _ _ => rfl
theorem But.trans {a : Addr} {H H1 H2 : Hp} (p : But a H H1) (q : But a H1 H2) : But a H H2 :=
  fun b h => (q b h).trans (p b h)
theorem But.upd {a : Addr} {H H' : Hp} {o : HO} (p : But a H H') : But a H (upd H' a o) :=
  fun b h => (upd_ne h).trans (p b h)
/-- what stood stands, but what stands at a -/
def Kp (a : Addr) (H H' : Hp) : Prop := ∀ b o, H b = some o → b ≠ a → H' b = some o
theorem Kp.refl (a : Addr) (H : Hp) : Kp a H H := fun _ _ e _ => e
theorem Kp.trans {a : Addr} {H H1 H2 : Hp} (p : Kp a H H1) (q : Kp a H1 H2) : Kp a H H2 :=
  fun b o e h => q b o (p b o e h) h
theorem But.kp {a : Addr} {H H' : Hp} (p : But a H H') : Kp a H H' :=
  fun b o e h => (p b h).trans e
theorem Kp.new {a p : Addr} {H H' : Hp} {o : HO} (q : Kp a H H') (h : H' p = none) :
    Kp a H (upd H' p o) := fun b u e ne => by
  have z := q b u e ne
  rw [upd_ne (ne_of_none z h)]
  exact z
theorem Same.kp {a : Addr} {H H' : Hp} (s : Same H H') : Kp a H H' := fun b o e _ => s b o e
theorem Kp.free {a p : Addr} {H H' : Hp} (q : Kp a H H') (h : H' p = none) (ne : p ≠ a) :
    H p = none := by
  cases e : H p with
  | none => rfl
  | some o =>
    rw [q p o e ne] at h
    cases h
theorem Kp.seq {K : PySem.W.Frag} {a b : Addr} {H H' : Hp} {xs : List V} (q : Kp a H H')
    (ne : b ≠ a) (h : SqL K H b xs) : SqL K H' b xs := by
  rcases h with (h | ⟨o, h⟩) | h
  · exact .inl (.inl (q _ _ h ne))
  · exact .inl (.inr ⟨o, q _ _ h ne⟩)
  · exact .inr h
theorem Kp.seqT {K : PySem.W.Frag} {a b : Addr} {H H' : Hp} {xs : List V} (q : Kp a H H')
    (ne : b ≠ a) (h : SqT K H b xs) : SqT K H' b xs := by
  rcases h with (h | ⟨o, h⟩) | h
  · exact .inl (.inl (q _ _ h ne))
  · exact .inl (.inr ⟨o, q _ _ h ne⟩)
  · exact .inr h
theorem Same.new {H : Hp} {p : Addr} {o : HO} (h : H p = none) : Same H (upd H p o) :=
  fun b u e => by
  rw [upd_ne (ne_of_none e h)]
  exact e
theorem same_set {H H' : Hp} {p : Addr} {o : HO} (q : Same H H') (h : H p = none) :
    Same H (upd H' p o) := fun b u e => by
  rw [upd_ne (ne_of_none e h)]
  exact q b u e
theorem Same.seqT {K : PySem.W.Frag} {a : Addr} {H H' : Hp} {xs : List V} (q : Same H H')
    (h : SqT K H a xs) : SqT K H' a xs := by
  rcases h with (h | ⟨o, h⟩) | h
  · exact .inl (.inl (q _ _ h))
  · exact .inl (.inr ⟨o, q _ _ h⟩)
  · exact .inr h

section
variable {K : PySem.W.Frag} {H : Hp} {a p : Addr} {o u : HO} {xs : List V}
theorem sq_upd (np : H p = none) (h : SqL K H a xs) : SqL K (upd H p o) a xs :=
  Same.seq (Same.new np) h
theorem sqT_upd (np : H p = none) (h : SqT K H a xs) : SqT K (upd H p o) a xs :=
  Same.seqT (Same.new np) h
theorem at_upd (np : H p = none) (h : H a = some u) : upd H p o a = some u :=
  Same.new np a u h
theorem at_ne (ne : a ≠ p) (h : H a = some u) : upd H p o a = some u := (upd_ne ne).trans h
theorem at_ne0 (ne : a ≠ p) (h : H a = none) : upd H p o a = none := (upd_ne ne).trans h
theorem r_list_of {S : List V → Prop} (h : SqL K H a xs) (q : S xs) :
    ∃ p ys, [V.ref a] = [V.ref p] ∧ (SqL K H p ys ∨ SqT K H p ys) ∧ S ys :=
  ⟨a, xs, rfl, .inl h, q⟩
theorem r_list_ofT {S : List V → Prop} (h : SqT K H a xs) (q : S xs) :
    ∃ p ys, [V.ref a] = [V.ref p] ∧ (SqL K H p ys ∨ SqT K H p ys) ∧ S ys :=
  ⟨a, xs, rfl, .inr h, q⟩
theorem r_size {R : Prop} (h : xs.length ≤ 100000) (q : R) : xs.length ≤ sizeLine ∧ R :=
  ⟨Nat.le_trans h (by decide), q⟩
end

/-! ### the law's source of drawn numbers -/
/-- the source at a: the script's copy at la, the place, what is left of a great cell, a state, a count -/
structure Src (H : Hp) (a la : Addr) : Prop where
  ne : la ≠ a
  ex : ∃ (ns : List Int) (pos : Nat) (rest st n : Int),
    H a = some (.lst [.ref la, .int pos, .int rest, .int st, .int n]) ∧
    H la = some (.lst (ns.map V.int)) ∧ pos ≤ ns.length ∧ 0 ≤ rest ∧ 0 ≤ st ∧ st < 2147483629
section
variable {H H' : Hp} {a la D : Addr} {o : HO}
theorem Src.apart (h : Src H a la) (n : H D = none) : D ≠ a ∧ D ≠ la := by
  obtain ⟨ne, ns, pos, rest, st, k, h1, h2, _⟩ := h
  exact ⟨(ne_of_none h1 n).symm, (ne_of_none h2 n).symm⟩
theorem Src.upd (h : Src H a la) (n : D ≠ a ∧ D ≠ la) : Src (upd H D o) a la := by
  obtain ⟨ne, ns, pos, rest, st, k, h1, h2, r⟩ := h
  exact ⟨ne, ns, pos, rest, st, k, at_ne n.1.symm h1, at_ne n.2.symm h2, r⟩
theorem Src.new (h : Src H a la) (n : H D = none) : Src (L2.upd H D o) a la := h.upd (h.apart n)
theorem Src.ext (h : Src H a la) (e : Same H H') : Src H' a la := by
  obtain ⟨ne, ns, pos, rest, st, k, h1, h2, r⟩ := h
  exact ⟨ne, ns, pos, rest, st, k, e _ _ h1, e _ _ h2, r⟩
theorem Src.at (h : Src H a la) : ∃ o, H a = some o := by
  obtain ⟨ne, ns, pos, rest, st, k, h1, h2, r⟩ := h
  exact ⟨_, h1⟩
theorem Kp.set (q : Kp a H H') (n : H D = none) : Kp a H (L2.upd H' D o) := fun b u e ne => by
  rw [upd_ne (ne_of_none e n)]
  exact q b u e ne
theorem Kp.same (q : Kp a H H') {H2 : Hp} (e : Same H' H2) : Kp a H H2 :=
  fun b u z ne => e b u (q b u z ne)
end
end GX

set_option Elab.async false
set_option linter.all false
set_option maxRecDepth 100000
set_option maxHeartbeats 4000000
namespace Toy
open PySem L2 GX PySem.Spec TL
def top (i : Nat) : Stmt := PySem.Challenge.pw_fewvouch_k01_names_of_letters.main.body.getD i (.Pass ⟨0, 0, 0, 0⟩)
/-- the built-ins' names are the module's own nowhere -/
structure Blt (mg : Str → Option Value) : Prop where
  n_int : mg "int" = none
  n_len : mg "len" = none
  n_list : mg "list" = none
  n_range : mg "range" = none
  n_repr : mg "repr" = none
  n_all : mg "all" = none
/-! ### one step of a reading -/
local macro_rules | `(tactic| walk_at "r1") => `(tactic| with_reducible first
  | refine r_seq ?_ | refine r_asg ?_ | refine r_name ?_
  | refine r_c ?_ | refine r_op ?_ | refine r_un ?_ | refine r_I0 ?_ | refine r_U ?_
  | refine r_ifS ?_ | refine r_if ?_ | refine r_test ?_ | refine r_B ?_
  | refine r_and ?_ | refine r_or ?_ | refine r_not ?_ | refine r_bl ?_ | refine r_ret ?_
  | refine r_drop ?_ | refine r_nil ?_ | refine r_cons ?_ | refine r_CB ?_ | refine r_call ?_
  | refine r_int ?_ | refine r_tup ?_ | refine r_lst ?_ | refine r_andV ?_ | refine r_chain ?_
  | refine r_sub ?_ | refine r_next ?_ | refine r_for ?_ | refine r_lc ?_ | refine r_iList ?_
  | refine r_iTup ?_ | refine r_iStr ?_ | refine r_its ?_ | refine r_rng1 ?_ | refine r_zip ?_
  | refine r_enum ?_ | refine r_sl ?_ | refine r_part ?_ | refine r_prt ?_ | refine r_nopart ?_
  | refine r_yes ?_ | refine r_M1 ?_ | refine r_M0 ?_ | refine r_isS ?_ | refine r_BM ?_ | refine r_BM0 ?_)
local macro_rules | `(tactic| walk_at "rv") => `(tactic| ((with_reducible refine' r_var ?hv ?_); (case hv => rfl)))
local macro_rules | `(tactic| walk_at "sq") => `(tactic| first
  | assumption | exact SqL.of (by assumption) | exact SqT.of (by assumption) | exact SqL.of upd_same | exact SqT.of upd_same
  | ((refine' sq_upd ?hn ?hh); (case hn => assumption); (case hh => walk_at "sq"))
  | ((refine' sqT_upd ?hn ?hh); (case hn => assumption); (case hh => walk_at "sq")))
local macro_rules | `(tactic| walk_at "rx") => `(tactic| first
  | ((with_reducible refine' r_ixL ?hs ?he ?_); (case hs => walk_at "sq"); (case he => first | rfl | exact atI_nat (by assumption)))
  | ((with_reducible refine' r_ixT ?hs ?he ?_); (case hs => walk_at "sq"); (case he => first | rfl | exact atI_nat (by assumption)))
  | ((with_reducible refine' r_setL ?hs ?he ?_); (case hs => first | assumption | exact upd_same); (case he => first | rfl | exact atI_nat (by assumption)))
  | ((with_reducible refine' r_slL ?hs ?_); (case hs => walk_at "sq"))
  | ((with_reducible refine' r_itl ?hs ?_); (case hs => walk_at "sq"))
  | ((with_reducible refine' r_itt ?hs ?_); (case hs => walk_at "sq"))
  | ((with_reducible refine r_rg1 ?hs ?_); (case hs => constructor <;> omega))
  | ((with_reducible refine r_I ?hs ?_); (case hs => first | assumption | (show (0 : Int) < _; omega) | exact Or.inr ⟨by decide, by decide⟩ | exact Or.inl ⟨by decide, by decide⟩ | (refine Or.inl ⟨?_, ?_⟩ <;> omega) | exact ⟨by decide, by decide⟩ | exact ⟨by decide, by decide, by decide⟩))
  | ((with_reducible refine' r_list_of ?hs ?_); (case hs => walk_at "sq"))
  | ((with_reducible refine' r_list_ofT ?hs ?_); (case hs => walk_at "sq"))
  | ((with_reducible refine r_size ?hs ?_); (case hs => first | (simp only [List.length_cons, List.length_nil]; omega) | decide))
  | ((with_reducible refine' r_tyL ?hs ?_); (case hs => walk_at "sq"))
  | ((with_reducible refine r_addS ?hs ?_); (case hs => first | assumption | omega))
  | ((with_reducible refine r_lenS ?hs ?_); (case hs => first | assumption | omega))
  | ((with_reducible refine' r_slS ?hs ?_); (case hs => first | assumption | (refine Nat.le_trans ?_ (by decide : 1000000 ≤ sizeLine); omega)))
  | ((with_reducible refine r_eq ?hs ?_); (case hs => rfl))
  | ((with_reducible refine r_ne ?hs ?_); (case hs => rfl)))
local macro_rules | `(tactic| walk_at "rd") => `(tactic| repeat' (first | walk_at "r1" | walk_at "rv" | walk_at "rx"))

/-! ### the law's own source of drawn numbers -/
section
variable {P : Program} {w : World} {K : PySem.W.Frag} {mg : Str → Option Value} {base : Heap}
abbrev s_source : Stmt := top 8
abbrev s_draw : Stmt := top 9
abbrev s_of : Stmt := top 10
def spSource (K : PySem.W.Frag) : Sp := fun vs H Q _ => ∃ (a : Addr) (ns : List Int),
  vs = [.ref a] ∧ SqL K H a (ns.map V.int) ∧ ∀ p la H', H p = none → Same H H' → Src H' p la → Q (.ref p) H'
def spDraw : Sp := fun vs H Q _ => ∃ (a la : Addr) (m : Int), vs = [.ref a, .int m] ∧ 0 < m ∧
  m < 2 ^ 200 ∧ Src H a la ∧ ∀ j H', 0 ≤ j → j < m → Src H' a la → But a H H' → Q (.int j) H'
def spOf (K : PySem.W.Frag) : Sp := fun vs H Q _ => ∃ (a la l : Addr) (xs : List V),
  vs = [.ref a, .ref l] ∧ SqL K H l xs ∧ l ≠ a ∧ xs ≠ [] ∧ xs.length < 100000 ∧ Src H a la ∧
  ∀ x H', x ∈ xs → Src H' a la → But a H H' → Q x H'
theorem sc_source : FnScope ["_law_script", "_law_start", "_law_cell"] ["_law_script"] (defScope s_source) :=
  ⟨rfl, rfl, rfl, by decide +kernel, rfl, by decide +kernel, by decide +kernel⟩
theorem sc_draw : FnScope ["_law_src", "_law_many", "_law_cell", "_law_digit", "_law_base9", "_law_later9"] ["_law_src", "_law_many"] (defScope s_draw) :=
  ⟨rfl, rfl, rfl, by decide +kernel, rfl, by decide +kernel, by decide +kernel⟩
theorem sc_of : FnScope ["_law_src", "_law_some"] ["_law_src", "_law_some"] (defScope s_of) :=
  ⟨rfl, rfl, rfl, by decide +kernel, rfl, by decide +kernel, by decide +kernel⟩

theorem cut_ints (ns : List Int) (lo hi : Option Int) : ∃ ms : List Int, cutV (ns.map V.int) lo hi = ms.map V.int := by
  refine ⟨(ns.drop (HT.sIx ns.length 0 lo)).take (HT.sIx ns.length ns.length hi - HT.sIx ns.length 0 lo), ?_⟩
  unfold cutV
  rw [List.length_map, List.map_take, List.map_drop]
theorem len1 {vs : List V} {x : V} (h : vs = [x]) : vs.length = 1 := by rw [h]; rfl
theorem len2 {vs : List V} {x y : V} (h : vs = [x, y]) : vs.length = 2 := by rw [h]; rfl

theorem ok_source {f : Addr} {fd : FuncData} (F : Fun K "_law_source" "_law_source" s_source f fd)
    (T : Blt mg) : FnG P w K mg base CX0 1 f fd ["_law_script"] (spSource K) := by
  refine okG F sc_source (fun vs H Q E h => ?_) (fun cdv A outer s H vs Q E hG hr h => ?_)
  · obtain ⟨a, ns, rfl, _⟩ := h
    rfl
  · obtain ⟨a, ns, rfl, hS, k⟩ := h
    refine ⟨_, (pss_cons (ps_set (i := 1) sc_source.nd rfl (by first | exact Or.inl rfl | exact Or.inr rfl) pe_int)
  (pss_cons (ps_for PassesOwn.never rfl (pi_list (pe_slice sl_list (pv 0) po_none (po_some pe_int))) (pg_name (i := 2) sc_source.nd rfl (by first | exact Or.inl rfl | exact Or.inr rfl))
    (pss_one (ps_set (i := 1) sc_source.nd rfl (by first | exact Or.inl rfl | exact Or.inr rfl) (pe_op op_mod (pe_callTy call_int1 (by rfl) T.n_int (by decide +kernel) (pa_cons (pe_op op_add (pe_op op_add (pe_op op_mul (pv 1) pe_int) (pe_op op_mod (pe_callTy call_int1 (by rfl) T.n_int (by decide +kernel) (pa_cons (pv 2) pa_nil)) pe_int)) pe_int) pa_nil)) pe_int))))
  (pss_one (ps_ret (pe_lst (pa_cons (pe_callTy call_list_of (by rfl) T.n_list (by decide +kernel) (pa_cons (pe_slice sl_list (pv 0) po_none (po_some pe_int)) pa_nil)) (pa_cons pe_int (pa_cons pe_int (pa_cons (pv 1) (pa_cons pe_int pa_nil)))))))))), ?_⟩
    dsimp only [cxOf, Cx.nox, Cx.wish]
    walk_at "rd"
    intro p np
    walk_at "rd"
    refine for_L (cutV (ns.map V.int) none (some 63)) (fun i σ H2 => ∃ (c : Option V) (n : Int),
      σ = [some (.ref a), some (.int n), c] ∧ H2 = upd H p (.lst (cutV (ns.map V.int) none (some 63))) ∧ 0 ≤ n ∧
        n < 2147483629) ⟨none, 9480, rfl, rfl, by decide, by decide⟩ ?_ ?_ ?_
    · rintro i σ H2 hi ⟨c, n, rfl, rfl, _⟩
      exact SqL.of upd_same
    · rintro i x σ H2 hx ⟨c, n, rfl, rfl, h1, h2⟩
      have hm : x ∈ ns.map V.int := List.mem_of_mem_drop (List.mem_of_mem_take (List.mem_of_getElem? hx))
      obtain ⟨z, _, rfl⟩ := List.mem_map.mp hm
      walk_at "rd"
      exact ⟨_, _, rfl, rfl, Int.emod_nonneg _ (by decide), Int.emod_lt_of_pos _ (by decide)⟩
    · rintro σ H2 ⟨c, n, rfl, rfl, h1, h2⟩
      walk_at "rd"
      intro q nq
      walk_at "rd"
      intro l nl
      walk_at "rd"
      intro r nr
      have s3 : Same H _ := ((Same.new (o := HO.lst (cutV (ns.map V.int) none (some 63))) np).trans
        (Same.new (o := HO.lst (cutV (ns.map V.int) none (some 63))) nq)).trans
        (Same.new (o := HO.lst (cutV (ns.map V.int) none (some 63))) nl)
      obtain ⟨ms, em⟩ := cut_ints ns none (some 63)
      refine k r l _ (s3.free nr) (s3.trans (Same.new nr)) ⟨?_, ms, 0, 0, n, 0, upd_same, ?_, by simp, by omega, h1, h2⟩
      · rintro rfl
        rw [upd_same] at nr
        cases nr
      · rw [← em]
        exact at_upd nr upd_same

theorem ok_draw {f : Addr} {fd : FuncData} (F : Fun K "_law_draw" "_law_draw" s_draw f fd)
    (T : Blt mg) : FnG P w K mg base CX0 1 f fd ["_law_src", "_law_many"] spDraw := by
  refine okG F sc_draw (fun vs H Q E h => ?_) (fun cdv A outer s H vs Q E hG hr h => ?_)
  · obtain ⟨a, la, m, rfl, _⟩ := h
    rfl
  · obtain ⟨a, la, m, rfl, m0, m1, hS, k⟩ := h
    refine ⟨_, (Evl.pss_cut (ps_if (PW.pt (pw_and (pt_cmpR op_lt (pe_ix ix_list (pv 0) pe_int (fun _ _ => rfl)) (pv 1) (nomark _)) (pw_and1 (pt_cmpR op_lt (pe_ix ix_list (pv 0) pe_int (fun _ _ => rfl)) (pe_callB call_len_seq (by rfl) T.n_len (by decide +kernel) (pa_cons (pe_ix ix_list (pv 0) pe_int (fun _ _ => rfl)) pa_nil)) (nomark _)))))
    (pss_cons (ps_set (i := 2) sc_draw.nd rfl (by first | exact Or.inl rfl | exact Or.inr rfl) (pe_ix ix_list (pe_ix ix_list (pv 0) pe_int (fun _ _ => rfl)) (pe_ix ix_list (pv 0) pe_int (fun _ _ => rfl)) (fun _ _ => rfl)))
      (pss_cons (ps_asg (pe_op op_add (pe_ix ix_list (pv 0) pe_int (fun _ _ => rfl)) pe_int) (pg_sub (pv 0) pe_int set_list))
      (pss_cons (ps_asg (pe_op op_mod (pe_callTy call_int1 (by rfl) T.n_int (by decide +kernel) (pa_cons (pe_op op_add (pe_op op_add (pe_op op_mul (pe_ix ix_list (pv 0) pe_int (fun _ _ => rfl)) pe_int) (pe_op op_mod (pe_callTy call_int1 (by rfl) T.n_int (by decide +kernel) (pa_cons (pv 2) pa_nil)) pe_int)) pe_int) pa_nil)) pe_int) (pg_sub (pv 0) pe_int set_list))
      (pss_one (ps_asg (pe_ifExp (pt_cmpR op_ge (pv 2) (pe_op op_pow pe_int pe_int) (nomark _)) (pv 2) pe_int) (pg_sub (pv 0) pe_int set_list))))))
    pss_nil)
  (pss_cons (ps_if (pt_cmpR op_ge (pe_ix ix_list (pv 0) pe_int (fun _ _ => rfl)) (pv 1) (nomark _))
    (pss_cons (ps_set (i := 3) sc_draw.nd rfl (by first | exact Or.inl rfl | exact Or.inr rfl) (pe_op op_mod (pe_callTy call_int1 (by rfl) T.n_int (by decide +kernel) (pa_cons (pe_ix ix_list (pv 0) pe_int (fun _ _ => rfl)) pa_nil)) (pv 1)))
      (pss_cons (ps_asg (pe_op op_fdivW (pe_ix ix_list (pv 0) pe_int (fun _ _ => rfl)) (pv 1)) (pg_sub (pv 0) pe_int set_list))
      (pss_one (ps_ret (pv 3)))))
    pss_nil)
  (pss_cons (ps_asg (pe_op op_add (pe_ix ix_list (pv 0) pe_int (fun _ _ => rfl)) pe_int) (pg_sub (pv 0) pe_int set_list))
  (pss_cons (ps_set (i := 4) sc_draw.nd rfl (by first | exact Or.inl rfl | exact Or.inr rfl) (pe_op op_mod (pe_callTy call_int1 (by rfl) T.n_int (by decide +kernel) (pa_cons (pe_op op_add (pe_ix ix_list (pv 0) pe_int (fun _ _ => rfl)) (pe_op op_mul (pe_ix ix_list (pv 0) pe_int (fun _ _ => rfl)) pe_int)) pa_nil)) pe_int))
  (pss_cons (ps_set (i := 5) sc_draw.nd rfl (by first | exact Or.inl rfl | exact Or.inr rfl) (pe_op op_mul (pe_op op_mod (pe_callTy call_int1 (by rfl) T.n_int (by decide +kernel) (pa_cons (pe_op op_mul (pv 4) (pv 4)) pa_nil)) pe_int) (pe_op op_add (pe_op op_mod (pe_callTy call_int1 (by rfl) T.n_int (by decide +kernel) (pa_cons (pv 4) pa_nil)) pe_int) pe_int)))
  (pss_cons (ps_asg (pe_op op_mod (pe_callTy call_int1 (by rfl) T.n_int (by decide +kernel) (pa_cons (pe_op op_add (pe_op op_add (pv 5) (pe_op op_mul pe_int (pv 4))) pe_int) pa_nil)) pe_int) (pg_sub (pv 0) pe_int set_list))
  (pss_one (ps_ret (pe_op op_mod (pe_callTy call_int1 (by rfl) T.n_int (by decide +kernel) (pa_cons (pe_op op_add (pe_op op_fdivW (pe_ix ix_list (pv 0) pe_int (fun _ _ => rfl)) pe_int) (pe_op op_mul (pe_op op_mod (pe_callTy call_int1 (by rfl) T.n_int (by decide +kernel) (pa_cons (pe_ix ix_list (pv 0) pe_int (fun _ _ => rfl)) pa_nil)) pe_int) pe_int)) pa_nil)) (pv 1)))))))))), ?_⟩
    dsimp only [cxOf, Cx.nox, Cx.wish]
    refine r_cut (fun σ H1 => ∃ c, σ = [some (.ref a), some (.int m), c, none, none, none] ∧ Src H1 a la ∧ But a H H1) ?_ ?_
    · obtain ⟨ne, ns, pos, rest, st, n, h1, h2, hp, r0, s0, s1⟩ := hS
      walk_at "rd"
      have skip : ∃ c, start ["_law_src", "_law_many", "_law_cell", "_law_digit", "_law_base9", "_law_later9"] [.ref a, .int m] = [some (.ref a), some (.int m), c, none, none, none] ∧
          Src H a la ∧ But a H H := ⟨none, rfl, ⟨ne, ns, pos, rest, st, n, h1, h2, hp, r0, s0, s1⟩, But.refl a H⟩
      refine ite_b (fun hc => ?_) (fun hc => ite_f rfl skip)
      walk_at "rd"
      refine ite_b (fun hd => ?_) (fun hd => skip)
      have hpos : pos < ns.length := by simpa using hd
      obtain ⟨cell, hcell⟩ : ∃ cell : Int, (ns.map V.int)[pos]? = some (.int cell) := ⟨ns[pos], by simp [hpos]⟩
      have h2' : ∀ o, (upd H a o) la = some (.lst (ns.map V.int)) := fun o => at_ne ne h2
      walk_at "rd"
      have fin : ∀ r : Int, 0 ≤ r → (fun σ H1 => ∃ c, σ = [some (V.ref a), some (V.int m), c, none, none, none] ∧ Src H1 a la ∧ But a H H1)
          [some (V.ref a), some (V.int m), some (V.int cell), none, none, none]
          (upd (upd (upd H a (.lst [.ref la, .int (pos + 1), .int rest, .int st, .int n])) a (.lst [.ref la, .int (pos + 1), .int rest,
            .int ((st * 48281 + cell % 2147483549 + 17) % 2147483587), .int n])) a (.lst [.ref la, .int (pos + 1), .int r,
            .int ((st * 48281 + cell % 2147483549 + 17) % 2147483587), .int n])) := fun r hr => by
        refine ⟨_, rfl, ⟨ne, ns, pos + 1, r, _, n, upd_same, at_ne ne (at_ne ne (at_ne ne h2)), hpos, hr, Int.emod_nonneg _ (by decide), ?_⟩, ((But.refl a H).upd.upd).upd⟩
        have := Int.emod_lt_of_pos (st * 48281 + cell % 2147483549 + 17) (show (0 : Int) < 2147483587 by decide)
        omega
      refine ite_b (fun he => ?_) (fun he => ?_)
      · walk_at "rd"
        exact fin cell (by have := of_decide_eq_true he; have e18 : (10 : Int) ^ (18 : Int).toNat = 1000000000000000000 := by decide +kernel
                           omega)
      · walk_at "rd"
        exact fin 0 (by decide)
    · rintro σ H1 ⟨c, rfl, ⟨ne, ns, pos, rest, st, n, h1, h2, hp, r0, s0, s1⟩, hB⟩
      have hW : CDivW rest m := wide_div (b := 200) m0 (by omega) (by decide) (by decide)
      have hW2 : ∀ z : Int, CDivW z 67 := fun z => wide_div (b := 10) (by decide) (by decide) (by decide) (by decide)
      have e1 := fun z => Int.emod_nonneg z (show m ≠ 0 by omega)
      have e2 := fun z => Int.emod_lt_of_pos z m0
      walk_at "rd"
      refine ite_b (fun hc => ?_) (fun hc => ?_)
      · walk_at "rd"
        refine k _ _ (e1 _) (e2 _) ⟨ne, ns, pos, rest / m, st, n, upd_same, at_ne ne h2, hp, Int.ediv_nonneg r0 (by omega), s0, s1⟩ hB.upd
      · walk_at "rd"
        refine k _ _ (e1 _) (e2 _) ⟨ne, ns, pos, rest, _, n + 1, upd_same, at_ne ne (at_ne ne h2), hp, r0, Int.emod_nonneg _ (by decide), ?_⟩ hB.upd.upd
        refine Int.lt_trans (Int.emod_lt_of_pos _ (by decide)) (by decide)

theorem ok_of {f fD : Addr} {fd fdD : FuncData} (F : Fun K "_law_of" "_law_of" s_of f fd) (T : Blt mg)
    (F__law_draw : Fun K "_law_draw" "_law_draw" s_draw fD fdD) (gD : mg "_law_draw" = some (.ref fD))
    (b__law_draw : Binds K fdD ["_law_src", "_law_many"] []) : FnG P w K mg base CX0 2 f fd ["_law_src", "_law_some"] (spOf K) := by
  have G__law_draw : FnG P w K mg base CX0 1 fD fdD ["_law_src", "_law_many"] spDraw := ok_draw F__law_draw T
  refine okG F sc_of (fun vs H Q E h => ?_) (fun cdv A outer s H vs Q E hG hr h => ?_)
  · obtain ⟨a, la, l, xs, rfl, _⟩ := h
    rfl
  · obtain ⟨a, la, l, xs, rfl, hl, ne, hx, hz, hS, k⟩ := h
    refine ⟨_, (pss_one (ps_ret (pe_ix ix_list (pv 1) (pe_callG G__law_draw hG (hr.mono (by decide)) (by rfl) gD F__law_draw.kp b__law_draw .nil pass0 (pa_cons (pv 0) (pa_cons (pe_callB call_len_seq (by rfl) T.n_len (by decide +kernel) (pa_cons (pv 1) pa_nil)) pa_nil))) (fun _ _ => rfl)))), ?_⟩
    dsimp only [cxOf, Cx.nox, Cx.wish]
    walk_at "rd"
    have h0 : 0 < xs.length := List.length_pos_iff.mpr hx
    refine ⟨a, la, _, rfl, by omega, by omega, hS, fun j H' j0 j1 hS' hB => ?_⟩
    obtain ⟨n, rfl⟩ := Int.eq_ofNat_of_zero_le j0
    have hj : n < xs.length := by omega
    have hl' : SqL K H' l xs := hB.kp.seq ne hl
    have hg : xs[n]? = some xs[n] := by simp [hj]
    walk_at "rd"
    exact k _ _ (List.getElem_mem hj) hS' hB
end

end Toy

set_option Elab.async false
set_option linter.all false
set_option maxRecDepth 100000
set_option maxHeartbeats 4000000
namespace Toy
open PySem L2 GX PySem.Spec TL
/-! ### one step of a reading -/
local macro_rules | `(tactic| walk_at "r1") => `(tactic| with_reducible first
  | refine r_seq ?_ | refine r_asg ?_ | refine r_name ?_
  | refine r_c ?_ | refine r_op ?_ | refine r_un ?_ | refine r_I0 ?_ | refine r_U ?_
  | refine r_ifS ?_ | refine r_if ?_ | refine r_test ?_ | refine r_B ?_
  | refine r_and ?_ | refine r_or ?_ | refine r_not ?_ | refine r_bl ?_ | refine r_ret ?_
  | refine r_drop ?_ | refine r_nil ?_ | refine r_cons ?_ | refine r_CB ?_ | refine r_call ?_
  | refine r_int ?_ | refine r_tup ?_ | refine r_lst ?_ | refine r_andV ?_ | refine r_chain ?_
  | refine r_sub ?_ | refine r_next ?_ | refine r_for ?_ | refine r_lc ?_ | refine r_iList ?_
  | refine r_iTup ?_ | refine r_iStr ?_ | refine r_its ?_ | refine r_rng1 ?_ | refine r_zip ?_
  | refine r_enum ?_ | refine r_sl ?_ | refine r_part ?_ | refine r_prt ?_ | refine r_nopart ?_
  | refine r_yes ?_ | refine r_M1 ?_ | refine r_M0 ?_ | refine r_isS ?_ | refine r_BM ?_ | refine r_BM0 ?_)
local macro_rules | `(tactic| walk_at "rv") => `(tactic| ((with_reducible refine' r_var ?hv ?_); (case hv => rfl)))
local macro_rules | `(tactic| walk_at "sq") => `(tactic| first
  | assumption | exact SqL.of (by assumption) | exact SqT.of (by assumption) | exact SqL.of upd_same | exact SqT.of upd_same
  | ((refine' sq_upd ?hn ?hh); (case hn => assumption); (case hh => walk_at "sq"))
  | ((refine' sqT_upd ?hn ?hh); (case hn => assumption); (case hh => walk_at "sq")))
local macro_rules | `(tactic| walk_at "rx") => `(tactic| first
  | ((with_reducible refine' r_ixL ?hs ?he ?_); (case hs => walk_at "sq"); (case he => first | rfl | exact atI_nat (by assumption)))
  | ((with_reducible refine' r_ixT ?hs ?he ?_); (case hs => walk_at "sq"); (case he => first | rfl | exact atI_nat (by assumption)))
  | ((with_reducible refine' r_setL ?hs ?he ?_); (case hs => first | assumption | exact upd_same); (case he => first | rfl | exact atI_nat (by assumption)))
  | ((with_reducible refine' r_slL ?hs ?_); (case hs => walk_at "sq"))
  | ((with_reducible refine' r_itl ?hs ?_); (case hs => walk_at "sq"))
  | ((with_reducible refine' r_itt ?hs ?_); (case hs => walk_at "sq"))
  | ((with_reducible refine r_rg1 ?hs ?_); (case hs => constructor <;> omega))
  | ((with_reducible refine r_I ?hs ?_); (case hs => first | assumption | (show (0 : Int) < _; omega) | exact Or.inr ⟨by decide, by decide⟩ | exact Or.inl ⟨by decide, by decide⟩ | (refine Or.inl ⟨?_, ?_⟩ <;> omega) | exact ⟨by decide, by decide⟩ | exact ⟨by decide, by decide, by decide⟩))
  | ((with_reducible refine' r_list_of ?hs ?_); (case hs => walk_at "sq"))
  | ((with_reducible refine' r_list_ofT ?hs ?_); (case hs => walk_at "sq"))
  | ((with_reducible refine r_size ?hs ?_); (case hs => first | (simp only [List.length_cons, List.length_nil]; omega) | decide))
  | ((with_reducible refine' r_tyL ?hs ?_); (case hs => walk_at "sq"))
  | ((with_reducible refine r_addS ?hs ?_); (case hs => first | assumption | omega))
  | ((with_reducible refine r_lenS ?hs ?_); (case hs => first | assumption | omega))
  | ((with_reducible refine' r_slS ?hs ?_); (case hs => first | assumption | (refine Nat.le_trans ?_ (by decide : 1000000 ≤ sizeLine); omega)))
  | ((with_reducible refine r_eq ?hs ?_); (case hs => rfl))
  | ((with_reducible refine r_ne ?hs ?_); (case hs => rfl)))
local macro_rules | `(tactic| walk_at "rd") => `(tactic| repeat' (first | walk_at "r1" | walk_at "rv" | walk_at "rx"))

/-! ### names of letters -/
section
variable {P : Program} {w : World} {K : PySem.W.Frag} {mg : Str → Option Value} {base : Heap}
def alphabet : Str := "abcdefghijklmnopqrstuvwxyz"
/-- whether a text is a name -/
def isNm (z : Str) : Bool := (decide (1 ≤ (z.length : Int)) && decide ((z.length : Int) ≤ 8)) &&
  z.cps.toList.all fun c => decide (c ∈ alphabet.cps.toList)
def spName : Sp := fun vs H Q _ => ∃ z : Str, vs = [.str z] ∧ z.length ≤ 100000 ∧
  ∀ H', Same H H' → Q (.bl (isNm z)) H'
/-- the signs told one by one -/
theorem all_signs (z : Str) (acc : List V) (h : acc = ((z.cps.toList.take z.cps.size).map fun c => V.bl (decide (c ∈ alphabet.cps.toList)))) :
    acc = (z.cps.toList.map fun c => decide (c ∈ alphabet.cps.toList)).map V.bl := by
  rw [h, List.take_of_length_le (by simp), List.map_map]
  rfl
theorem take_sign {z : Str} {i c : Nat} (f : Nat → V) (e : z.cps[i]? = some c) :
    (z.cps.toList.take i).map f ++ [f c] = (z.cps.toList.take (i + 1)).map f := by
  have e' : z.cps.toList[i]? = some c := by rw [Array.getElem?_toList]; exact e
  have hi : i < z.cps.toList.length := (List.getElem?_eq_some_iff.mp e').1
  rw [List.take_succ, e']
  simp

abbrev s_name : Stmt := top 6
theorem sc_name : FnScope ["text", "sign"] ["text"] (defScope s_name) :=
  ⟨rfl, rfl, rfl, by decide +kernel, rfl, by decide +kernel, by decide +kernel⟩
theorem ok_name {f : Addr} {fd : FuncData} (F : Fun K "is_name" "is_name" s_name f fd) (T : Blt mg)
    {u1 u2 : Tok} (gL : mg "LONGEST_NAME" = some (.int 8 u1)) (gA : mg "LETTERS" = some (.str alphabet u2)) :
    FnG P w K mg base CX0 1 f fd ["text"] spName := by
  refine okG F sc_name (fun vs H Q E h => ?_) (fun cdv A outer s H vs Q E hG hr h => ?_)
  · obtain ⟨z, rfl, _⟩ := h
    rfl
  · obtain ⟨z, rfl, hz, k⟩ := h
    refine ⟨_, (pss_one (ps_ret (pe_and (pe_chain op_le op_le pe_int (pe_callB call_len_str (by rfl) T.n_len (by decide +kernel) (pa_cons (pv 0) pa_nil)) (pe_glob (v := .int 8) (by rfl) gL ⟨_, rfl⟩)) (pe_one (pe_callB (cr_all rfl) (by rfl) T.n_all (by decide +kernel) (pa_cons (pe_lc (own := [("sign", 1)]) (g := gName 1) (tt := tYes) rfl sc_name.nd (pi_str (pv 0)) (blkOk_by (own := [("sign", 1)]) (N := ["text", "sign"]) (sc := defScope (top 6)) (by decide +kernel)) (fun _ _ _ _ _ => (pg_name (i := 1) sc_name.nd rfl (by first | exact Or.inl rfl | exact Or.inr rfl))) (fun _ _ _ _ _ => pts_nil) (fun _ _ _ _ _ => (pe_cmpR op_in_sign (pv 1) (pe_glob (v := .str alphabet) (by rfl) gA ⟨_, rfl⟩) (by rfl)))) pa_nil)))))), ?_⟩
    dsimp only [cxOf, Cx.nox, Cx.wish]
    walk_at "rd"
    have no1 : decide (1 ≤ (z.length : Int)) = false → isNm z = false := fun e => by unfold isNm; rw [e]; rfl
    have no2 : decide ((z.length : Int) ≤ 8) = false → isNm z = false := fun e => by
      unfold isNm
      rw [e, Bool.and_false, Bool.false_and]
    have out : isNm z = false → Q (.bl false) H := fun e => by
      have q := k H (Same.refl H)
      rw [e] at q
      exact q
    refine ite_b (fun hc => ?_) (fun hc => ?_)
    · walk_at "rd"
      refine ite_b (fun hd => ?_) (fun hd => out (no2 hd))
      walk_at "rd"
      have hzz : z.length = z.cps.size := rfl
      refine lc_S z (fun D i acc H' => acc = (z.cps.toList.take i).map (fun c => V.bl (decide (c ∈ alphabet.cps.toList))) ∧ Same H H')
        (fun D nD => ⟨rfl, Same.new nD⟩) ?_ ?_
      · rintro D i acc c H1 hi nD hl hA ⟨rfl, hs⟩
        walk_at "rd"
        refine ⟨rfl, ?_⟩
        walk_at "rd"
        refine ite_t rfl ?_
        walk_at "rd"
        refine ⟨c, alphabet, rfl, rfl, ?_⟩
        have := (Array.getElem?_eq_some_iff.mp hi).1
        exact lc_put hA hl (by omega) ⟨take_sign _ hi, same_set hs nD⟩
      · rintro D acc H' nD hl ⟨he, hs⟩ hA
        walk_at "rd"
        have q := k H' hs
        refine ⟨D, z.cps.toList.map fun c => decide (c ∈ alphabet.cps.toList), rfl, SqL.of ?_, ?_⟩
        · rw [hA, all_signs z acc he]
        · unfold isNm at q
          rw [hc, hd] at q
          rw [List.all_map]
          exact q
    · refine r_bl (ite_f rfl ?_)
      exact out (no1 hc)
end
end Toy

set_option Elab.async false
set_option linter.all false
set_option maxRecDepth 100000
set_option maxHeartbeats 4000000
namespace Toy
open PySem L2 GX PySem.Spec TL
/-! ### one step of a reading -/
local macro_rules | `(tactic| walk_at "r1") => `(tactic| with_reducible first
  | refine r_seq ?_ | refine r_asg ?_ | refine r_name ?_
  | refine r_c ?_ | refine r_op ?_ | refine r_un ?_ | refine r_I0 ?_ | refine r_U ?_
  | refine r_ifS ?_ | refine r_if ?_ | refine r_test ?_ | refine r_B ?_
  | refine r_and ?_ | refine r_or ?_ | refine r_not ?_ | refine r_bl ?_ | refine r_ret ?_
  | refine r_drop ?_ | refine r_nil ?_ | refine r_cons ?_ | refine r_CB ?_ | refine r_call ?_
  | refine r_int ?_ | refine r_tup ?_ | refine r_lst ?_ | refine r_andV ?_ | refine r_chain ?_
  | refine r_sub ?_ | refine r_next ?_ | refine r_for ?_ | refine r_lc ?_ | refine r_iList ?_
  | refine r_iTup ?_ | refine r_iStr ?_ | refine r_its ?_ | refine r_rng1 ?_ | refine r_zip ?_
  | refine r_enum ?_ | refine r_sl ?_ | refine r_part ?_ | refine r_prt ?_ | refine r_nopart ?_
  | refine r_yes ?_ | refine r_M1 ?_ | refine r_M0 ?_ | refine r_isS ?_ | refine r_BM ?_ | refine r_BM0 ?_)
local macro_rules | `(tactic| walk_at "rv") => `(tactic| ((with_reducible refine' r_var ?hv ?_); (case hv => rfl)))
local macro_rules | `(tactic| walk_at "sq") => `(tactic| first
  | assumption | exact SqL.of (by assumption) | exact SqT.of (by assumption) | exact SqL.of upd_same | exact SqT.of upd_same
  | ((refine' sq_upd ?hn ?hh); (case hn => assumption); (case hh => walk_at "sq"))
  | ((refine' sqT_upd ?hn ?hh); (case hn => assumption); (case hh => walk_at "sq")))
local macro_rules | `(tactic| walk_at "rx") => `(tactic| first
  | ((with_reducible refine' r_ixL ?hs ?he ?_); (case hs => walk_at "sq"); (case he => first | rfl | exact atI_nat (by assumption)))
  | ((with_reducible refine' r_ixT ?hs ?he ?_); (case hs => walk_at "sq"); (case he => first | rfl | exact atI_nat (by assumption)))
  | ((with_reducible refine' r_setL ?hs ?he ?_); (case hs => first | assumption | exact upd_same); (case he => first | rfl | exact atI_nat (by assumption)))
  | ((with_reducible refine' r_slL ?hs ?_); (case hs => walk_at "sq"))
  | ((with_reducible refine' r_itl ?hs ?_); (case hs => walk_at "sq"))
  | ((with_reducible refine' r_itt ?hs ?_); (case hs => walk_at "sq"))
  | ((with_reducible refine r_rg1 ?hs ?_); (case hs => constructor <;> omega))
  | ((with_reducible refine r_I ?hs ?_); (case hs => first | assumption | (show (0 : Int) < _; omega) | exact Or.inr ⟨by decide, by decide⟩ | exact Or.inl ⟨by decide, by decide⟩ | (refine Or.inl ⟨?_, ?_⟩ <;> omega) | exact ⟨by decide, by decide⟩ | exact ⟨by decide, by decide, by decide⟩))
  | ((with_reducible refine' r_list_of ?hs ?_); (case hs => walk_at "sq"))
  | ((with_reducible refine' r_list_ofT ?hs ?_); (case hs => walk_at "sq"))
  | ((with_reducible refine r_size ?hs ?_); (case hs => first | (simp only [List.length_cons, List.length_nil]; omega) | decide))
  | ((with_reducible refine' r_tyL ?hs ?_); (case hs => walk_at "sq"))
  | ((with_reducible refine r_addS ?hs ?_); (case hs => first | assumption | omega))
  | ((with_reducible refine r_lenS ?hs ?_); (case hs => first | assumption | omega))
  | ((with_reducible refine' r_slS ?hs ?_); (case hs => first | assumption | (refine Nat.le_trans ?_ (by decide : 1000000 ≤ sizeLine); omega)))
  | ((with_reducible refine r_eq ?hs ?_); (case hs => rfl))
  | ((with_reducible refine r_ne ?hs ?_); (case hs => rfl)))
local macro_rules | `(tactic| walk_at "rd") => `(tactic| repeat' (first | walk_at "r1" | walk_at "rv" | walk_at "rx"))

/-! ### drawn words, equal texts -/
section
variable {P : Program} {w : World} {K : PySem.W.Frag} {mg : Str → Option Value} {base : Heap}
abbrev s_same : Stmt := top 11
abbrev s_word : Stmt := top 13
def spSame (K : PySem.W.Frag) : Sp := fun vs H Q _ => ∃ (x y : V) (d : PyData), vs = [x, y] ∧ Dp K H x d ∧ Dp K H y d ∧
  d.showable = true ∧ d.hasDict = false ∧ d.depth ≤ 40 ∧ d.shown.length + 64 ≤ 16777216 ∧ Q (.bl true) H
theorem sc_same : FnScope ["_law_found", "_law_due"] ["_law_found", "_law_due"] (defScope s_same) :=
  ⟨rfl, rfl, rfl, by decide +kernel, rfl, by decide +kernel, by decide +kernel⟩
theorem ok_same {f : Addr} {fd : FuncData} (F : Fun K "_law_same" "_law_same" s_same f fd) (T : Blt mg) :
    FnG P w K mg base CX0 1 f fd ["_law_found", "_law_due"] (spSame K) := by
  refine okG F sc_same (fun vs H Q E h => ?_) (fun cdv A outer s H vs Q E hG hr h => ?_)
  · obtain ⟨x, y, d, rfl, _⟩ := h
    rfl
  · obtain ⟨x, y, d, rfl, h1, h2, h3, h4, h5, h6, k⟩ := h
    refine ⟨_, (pss_one (ps_ret (pe_cmpR op_eq (pe_callB (call_reprD hG hr.units) (by rfl) T.n_repr (by decide +kernel) (pa_cons (pv 0) pa_nil)) (pe_callB (call_reprD hG hr.units) (by rfl) T.n_repr (by decide +kernel) (pa_cons (pv 1) pa_nil)) (nomark _)))), ?_⟩
    dsimp only [cxOf, Cx.nox, Cx.wish]
    walk_at "rd"
    refine ⟨x, d, rfl, h1, h3, h4, h5, h6, ?_⟩
    walk_at "rd"
    refine ⟨y, d, rfl, h2, h3, h4, h5, h6, ?_⟩
    walk_at "rd"
    show Q (.bl (decide (V.str d.shown = V.str d.shown))) H
    rw [decide_eq_true rfl]
    exact k

/-- a text of these signs -/
def txt (cs : List Nat) : Str := ⟨cs.toArray⟩
def one (c : Nat) : Str := ⟨#[c]⟩
theorem join_ones : ∀ cs : List Nat, joinL [] (cs.map fun c => [c]) = cs
  | [] => rfl
  | [_] => rfl
  | a :: b :: r => by
    show [a] ++ ([] ++ joinL [] ((b :: r).map fun c => [c])) = a :: b :: r
    rw [join_ones (b :: r)]
    rfl
theorem joined_ones (cs : List Nat) : Txt.join Str.empty (cs.map one) = txt cs := by
  rw [join_eq]
  have e := tl_join Str.empty (cs.map one)
  rw [List.map_map] at e
  refine ext_tl (e.trans ((join_ones cs).trans ?_))
  unfold tl txt
  simp
theorem ones_len (cs : List Nat) : ((cs.map one).map (·.length)).sum = cs.length := by
  induction cs with
  | nil => rfl
  | cons c r ih =>
    show 1 + ((r.map one).map (·.length)).sum = r.length + 1
    rw [ih]
    omega
theorem ones_v (cs : List Nat) : (cs.map one).map V.str = cs.map fun c => V.str (one c) := by
  rw [List.map_map]
  rfl
/-- n drawn letters -/
def spWord : Sp := fun vs H Q _ => ∃ (a la : Addr) (n : Nat), vs = [.ref a, .int (n : Int)] ∧ n ≤ 1000 ∧ Src H a la ∧
  ∀ (cs : List Nat) H', cs.length = n → (∀ c ∈ cs, c ∈ alphabet.cps.toList) → Src H' a la → Kp a H H' → Q (.str (txt cs)) H'
theorem sc_word : FnScope ["_law_src", "_law_many", "_law_letters", "_law_sign", "_law_k"] ["_law_src", "_law_many"] (defScope s_word) :=
  ⟨rfl, rfl, rfl, by decide +kernel, rfl, by decide +kernel, by decide +kernel⟩
theorem ok_word {f fO : Addr} {fd fdO : FuncData} (F : Fun K "_law_word" "_law_word" s_word f fd) (T : Blt mg)
    (F__law_of : Fun K "_law_of" "_law_of" s_of fO fdO) (gO : mg "_law_of" = some (.ref fO))
    (b__law_of : Binds K fdO ["_law_src", "_law_some"] []) (G__law_of : FnG P w K mg base CX0 2 fO fdO ["_law_src", "_law_some"] (spOf K)) :
    FnG P w K mg base CX0 3 f fd ["_law_src", "_law_many"] spWord := by
  refine okG F sc_word (fun vs H Q E h => ?_) (fun cdv A outer s H vs Q E hG hr h => ?_)
  · obtain ⟨a, la, n, rfl, _⟩ := h
    rfl
  · obtain ⟨a, la, n, rfl, hn, hS, k⟩ := h
    refine ⟨_, (pss_cons (ps_set (i := 2) sc_word.nd rfl (by first | exact Or.inl rfl | exact Or.inr rfl) (pe_lc (own := [("_law_sign", 3)]) (g := gName 3) (tt := tYes) rfl sc_word.nd (pi_str pe_str) (blkOk_by (own := [("_law_sign", 3)]) (N := ["_law_src", "_law_many", "_law_letters", "_law_sign", "_law_k"]) (sc := defScope (top 13)) (by decide +kernel)) (fun _ _ _ _ _ => (pg_name (i := 3) sc_word.nd rfl (by first | exact Or.inl rfl | exact Or.inr rfl))) (fun _ _ _ _ _ => pts_nil) (fun _ _ _ _ _ => (pv 3))))
  (pss_one (ps_ret (pe_join pe_str (pe_lc (own := [("_law_k", 4)]) (g := gName 4) (tt := tYes) rfl sc_word.nd (pi_range1 (by rfl) T.n_range (pa_cons (pv 1) pa_nil)) (blkOk_by (own := [("_law_k", 4)]) (N := ["_law_src", "_law_many", "_law_letters", "_law_sign", "_law_k"]) (sc := defScope (top 13)) (by decide +kernel)) (fun _ _ _ _ _ => (pg_name (i := 4) sc_word.nd rfl (by first | exact Or.inl rfl | exact Or.inr rfl))) (fun _ _ _ _ _ => pts_nil) (fun _ _ _ _ _ => (pe_callG G__law_of hG (hr.mono (by decide)) (by rfl) gO F__law_of.kp b__law_of .nil pass0 (pa_cons (pv 0) (pa_cons (pv 2) pa_nil))))))))), ?_⟩
    dsimp only [cxOf, Cx.nox, Cx.wish]
    walk_at "rd"
    refine lc_S alphabet (fun D i acc H' => acc = (alphabet.cps.toList.take i).map (fun c => V.str (one c)) ∧ Same H H')
        (fun D nD => ⟨rfl, Same.new nD⟩) ?_ ?_
    · rintro D i acc c H1 hi nD hl hA ⟨rfl, hs⟩
      walk_at "rd"
      refine ⟨rfl, ?_⟩
      walk_at "rd"
      refine ite_t rfl ?_
      walk_at "rd"
      have := (Array.getElem?_eq_some_iff.mp hi).1
      have e26 : alphabet.cps.size = 26 := by decide +kernel
      exact lc_put hA hl (by omega) ⟨take_sign (fun c => V.str (one c)) hi, same_set hs nD⟩
    · rintro L accL H1 nL _ ⟨eL, hs1⟩ hL
      have eL' : accL = alphabet.cps.toList.map fun c => V.str (one c) := by
        rw [eL, List.take_of_length_le (by simp)]
      have hS1 := hS.ext hs1
      have nLa := (hS.apart nL).1
      walk_at "rd"
      refine lc_R 0 (n : Int).toNat (fun D i acc H' => (∃ cs : List Nat, acc = cs.map (fun c => V.str (one c)) ∧ cs.length = i ∧
          ∀ c ∈ cs, c ∈ alphabet.cps.toList) ∧ Src H' a la ∧ Kp a H1 H')
          (fun D nD => ⟨⟨[], rfl, rfl, fun _ h => absurd h List.not_mem_nil⟩, hS1.new nD, (Kp.refl a H1).set nD⟩) ?_ ?_
      · rintro D i acc H2 hi nD hl hA ⟨⟨cs, rfl, ei, hc⟩, hS2, hk⟩
        walk_at "rd"
        refine ⟨rfl, ?_⟩
        walk_at "rd"
        refine ite_t rfl ?_
        walk_at "rd"
        refine ⟨a, la, L, accL, rfl, SqL.of (hk L _ hL nLa), nLa, ?_, ?_, hS2, fun x H3 hx hS3 hB => ?_⟩
        · rw [eL']
          exact List.ne_nil_of_length_pos (by rw [List.length_map]; decide +kernel)
        · rw [eL', List.length_map]
          decide +kernel
        rw [eL'] at hx
        obtain ⟨c, hcm, rfl⟩ := List.mem_map.mp hx
        have nDa := (hS1.apart nD).1
        refine lc_put (hB.kp D _ hA nDa) hl (by omega) ⟨⟨cs ++ [c], ?_, ?_, ?_⟩, hS3.upd (hS1.apart nD), (hk.trans hB.kp).set nD⟩
        · rw [List.map_append]
          rfl
        · rw [List.length_append, ei]
          rfl
        · intro z hz
          rcases List.mem_append.mp hz with h | h
          · exact hc z h
          · rw [List.mem_singleton.mp h]
            exact hcm
      · rintro D acc H2 nD hl ⟨⟨cs, rfl, ei, hc⟩, hS2, hk⟩ hA
        refine ⟨Str.empty, D, cs.map one, rfl, rfl, .inl (SqL.of ?_), ?_, ?_⟩
        · rw [ones_v]
          exact hA
        · rw [ones_len, List.length_map]
          show cs.length + cs.length * 0 ≤ 16777216
          omega
        · rw [joined_ones]
          exact k cs H2 (by omega) hc hS2 (fun b o e ne => hk b o (hs1 b o e) ne)
end

end Toy

set_option Elab.async false
set_option linter.all false
set_option maxRecDepth 100000
set_option maxHeartbeats 4000000
namespace Toy
open PySem L2 GX PySem.Spec TL
/-! ### one step of a reading -/
local macro_rules | `(tactic| walk_at "r1") => `(tactic| with_reducible first
  | refine r_seq ?_ | refine r_asg ?_ | refine r_name ?_
  | refine r_c ?_ | refine r_op ?_ | refine r_un ?_ | refine r_I0 ?_ | refine r_U ?_
  | refine r_ifS ?_ | refine r_if ?_ | refine r_test ?_ | refine r_B ?_
  | refine r_and ?_ | refine r_or ?_ | refine r_not ?_ | refine r_bl ?_ | refine r_ret ?_
  | refine r_drop ?_ | refine r_nil ?_ | refine r_cons ?_ | refine r_CB ?_ | refine r_call ?_
  | refine r_int ?_ | refine r_tup ?_ | refine r_lst ?_ | refine r_andV ?_ | refine r_chain ?_
  | refine r_sub ?_ | refine r_next ?_ | refine r_for ?_ | refine r_lc ?_ | refine r_iList ?_
  | refine r_iTup ?_ | refine r_iStr ?_ | refine r_its ?_ | refine r_rng1 ?_ | refine r_zip ?_
  | refine r_enum ?_ | refine r_sl ?_ | refine r_part ?_ | refine r_prt ?_ | refine r_nopart ?_
  | refine r_yes ?_ | refine r_M1 ?_ | refine r_M0 ?_ | refine r_isS ?_ | refine r_BM ?_ | refine r_BM0 ?_)
local macro_rules | `(tactic| walk_at "rv") => `(tactic| ((with_reducible refine' r_var ?hv ?_); (case hv => rfl)))
local macro_rules | `(tactic| walk_at "sq") => `(tactic| first
  | assumption | exact SqL.of (by assumption) | exact SqT.of (by assumption) | exact SqL.of upd_same | exact SqT.of upd_same
  | ((refine' sq_upd ?hn ?hh); (case hn => assumption); (case hh => walk_at "sq"))
  | ((refine' sqT_upd ?hn ?hh); (case hn => assumption); (case hh => walk_at "sq")))
local macro_rules | `(tactic| walk_at "rx") => `(tactic| first
  | ((with_reducible refine' r_ixL ?hs ?he ?_); (case hs => walk_at "sq"); (case he => first | rfl | exact atI_nat (by assumption)))
  | ((with_reducible refine' r_ixT ?hs ?he ?_); (case hs => walk_at "sq"); (case he => first | rfl | exact atI_nat (by assumption)))
  | ((with_reducible refine' r_setL ?hs ?he ?_); (case hs => first | assumption | exact upd_same); (case he => first | rfl | exact atI_nat (by assumption)))
  | ((with_reducible refine' r_slL ?hs ?_); (case hs => walk_at "sq"))
  | ((with_reducible refine' r_itl ?hs ?_); (case hs => walk_at "sq"))
  | ((with_reducible refine' r_itt ?hs ?_); (case hs => walk_at "sq"))
  | ((with_reducible refine r_rg1 ?hs ?_); (case hs => constructor <;> omega))
  | ((with_reducible refine r_I ?hs ?_); (case hs => first | assumption | (show (0 : Int) < _; omega) | exact Or.inr ⟨by decide, by decide⟩ | exact Or.inl ⟨by decide, by decide⟩ | (refine Or.inl ⟨?_, ?_⟩ <;> omega) | exact ⟨by decide, by decide⟩ | exact ⟨by decide, by decide, by decide⟩))
  | ((with_reducible refine' r_list_of ?hs ?_); (case hs => walk_at "sq"))
  | ((with_reducible refine' r_list_ofT ?hs ?_); (case hs => walk_at "sq"))
  | ((with_reducible refine r_size ?hs ?_); (case hs => first | (simp only [List.length_cons, List.length_nil]; omega) | decide))
  | ((with_reducible refine' r_tyL ?hs ?_); (case hs => walk_at "sq"))
  | ((with_reducible refine r_addS ?hs ?_); (case hs => first | assumption | omega | (simp only [strLen_append]; omega)))
  | ((with_reducible refine r_lenS ?hs ?_); (case hs => first | assumption | omega | (simp only [strLen_append]; omega)))
  | ((with_reducible refine' r_slS ?hs ?_); (case hs => first | assumption | (refine Nat.le_trans ?_ (by decide : 1000000 ≤ sizeLine); omega)))
  | ((with_reducible refine r_eq ?hs ?_); (case hs => rfl))
  | ((with_reducible refine r_ne ?hs ?_); (case hs => rfl)))
local macro_rules | `(tactic| walk_at "rd") => `(tactic| repeat' (first | walk_at "r1" | walk_at "rv" | walk_at "rx"))

section
variable {P : Program} {w : World} {K : PySem.W.Frag} {mg : Str → Option Value} {base : Heap}
abbrev s_lname : Stmt := top 12
theorem sc_lname : FnScope ["_law_text", "_law_sign"] ["_law_text"] (defScope s_lname) :=
  ⟨rfl, rfl, rfl, by decide +kernel, rfl, by decide +kernel, by decide +kernel⟩
theorem ok_lname {f : Addr} {fd : FuncData} (F : Fun K "_law_is_name" "_law_is_name" s_lname f fd) (T : Blt mg) :
    FnG P w K mg base CX0 1 f fd ["_law_text"] spName := by
  refine okG F sc_lname (fun vs H Q E h => ?_) (fun cdv A outer s H vs Q E hG hr h => ?_)
  · obtain ⟨z, rfl, _⟩ := h
    rfl
  · obtain ⟨z, rfl, hz, k⟩ := h
    refine ⟨_, (pss_one (ps_ret (pe_and (pe_chain op_le op_le pe_int (pe_callB call_len_str (by rfl) T.n_len (by decide +kernel) (pa_cons (pv 0) pa_nil)) pe_int) (pe_one (pe_callB (cr_all rfl) (by rfl) T.n_all (by decide +kernel) (pa_cons (pe_lc (own := [("_law_sign", 1)]) (g := gName 1) (tt := tYes) rfl sc_lname.nd (pi_str (pv 0)) (blkOk_by (own := [("_law_sign", 1)]) (N := ["_law_text", "_law_sign"]) (sc := defScope (top 12)) (by decide +kernel)) (fun _ _ _ _ _ => (pg_name (i := 1) sc_lname.nd rfl (by first | exact Or.inl rfl | exact Or.inr rfl))) (fun _ _ _ _ _ => pts_nil) (fun _ _ _ _ _ => (pe_cmpR op_in_sign (pv 1) pe_str (by rfl)))) pa_nil)))))), ?_⟩
    dsimp only [cxOf, Cx.nox, Cx.wish]
    walk_at "rd"
    have no1 : decide (1 ≤ (z.length : Int)) = false → isNm z = false := fun e => by unfold isNm; rw [e]; rfl
    have no2 : decide ((z.length : Int) ≤ 8) = false → isNm z = false := fun e => by
      unfold isNm
      rw [e, Bool.and_false, Bool.false_and]
    have out : isNm z = false → Q (.bl false) H := fun e => by
      have q := k H (Same.refl H)
      rw [e] at q
      exact q
    refine ite_b (fun hc => ?_) (fun hc => ?_)
    · walk_at "rd"
      refine ite_b (fun hd => ?_) (fun hd => out (no2 hd))
      walk_at "rd"
      have hzz : z.length = z.cps.size := rfl
      refine lc_S z (fun D i acc H' => acc = (z.cps.toList.take i).map (fun c => V.bl (decide (c ∈ alphabet.cps.toList))) ∧ Same H H')
        (fun D nD => ⟨rfl, Same.new nD⟩) ?_ ?_
      · rintro D i acc c H1 hi nD hl hA ⟨rfl, hs⟩
        walk_at "rd"
        refine ⟨rfl, ?_⟩
        walk_at "rd"
        refine ite_t rfl ?_
        walk_at "rd"
        refine ⟨c, alphabet, rfl, rfl, ?_⟩
        have := (Array.getElem?_eq_some_iff.mp hi).1
        exact lc_put hA hl (by omega) ⟨take_sign _ hi, same_set hs nD⟩
      · rintro D acc H' nD hl ⟨he, hs⟩ hA
        walk_at "rd"
        have q := k H' hs
        refine ⟨D, z.cps.toList.map fun c => decide (c ∈ alphabet.cps.toList), rfl, SqL.of ?_, ?_⟩
        · rw [hA, all_signs z acc he]
        · unfold isNm at q
          rw [hc, hd] at q
          rw [List.all_map]
          exact q
    · refine r_bl (ite_f rfl ?_)
      exact out (no1 hc)

abbrev s_law : Stmt := top 14
def spLaw (K : PySem.W.Frag) : Sp := fun vs H Q _ => ∃ (a : Addr) (ns : List Int), vs = [.ref a] ∧
  SqL K H a (ns.map V.int) ∧ ∀ H', Q (.bl true) H'
def signs : Str := " !\"#$&'()*+,-./0123456789:;<=>?@ABCXYZ[\\]^_`{|}~\n"
theorem sc_law : FnScope ["_law_script", "_law_src", "_law_signs", "_law_turn", "_law_text", "_law_at", "_law_sign"] ["_law_script"] (defScope s_law) :=
  ⟨rfl, rfl, rfl, by decide +kernel, rfl, by decide +kernel, by decide +kernel⟩
/-- what the top has left: each def's place -/
structure Txt (P : Program) (w : World) (K : PySem.W.Frag) (mg : Str → Option Value) (base : Heap) : Prop where
  blt : Blt mg
  g_source : ∃ f fd, mg "_law_source" = some (.ref f) ∧ Fun K "_law_source" "_law_source" s_source f fd ∧ Binds K fd ["_law_script"] []
theorem ok_law {f f1 f2 f3 f4 f5 f6 f7 : Addr} {fd d1 d2 d3 d4 d5 d6 d7 : FuncData} (F : Fun K "law" "law" s_law f fd) (T : Blt mg)
    {u1 u2 u3 u4 u5 : Tok} (gL : mg "LONGEST_NAME" = some (.int 8 u1)) (gA : mg "LETTERS" = some (.str alphabet u2))
    (g3 : mg "MOST_KINDS" = some (.int 4 u3)) (g4 : mg "MOST_CONSTRUCTORS" = some (.int 6 u4)) (g5 : mg "MOST_PARTS" = some (.int 3 u5))
    (F__law_source : Fun K "_law_source" "_law_source" s_source f1 d1) (m1 : mg "_law_source" = some (.ref f1)) (b__law_source : Binds K d1 ["_law_script"] [])
    (F__law_draw : Fun K "_law_draw" "_law_draw" s_draw f2 d2) (m2 : mg "_law_draw" = some (.ref f2)) (b__law_draw : Binds K d2 ["_law_src", "_law_many"] [])
    (F__law_of : Fun K "_law_of" "_law_of" s_of f3 d3) (m3 : mg "_law_of" = some (.ref f3)) (b__law_of : Binds K d3 ["_law_src", "_law_some"] [])
    (F__law_same : Fun K "_law_same" "_law_same" s_same f4 d4) (m4 : mg "_law_same" = some (.ref f4)) (b__law_same : Binds K d4 ["_law_found", "_law_due"] [])
    (F__law_word : Fun K "_law_word" "_law_word" s_word f5 d5) (m5 : mg "_law_word" = some (.ref f5)) (b__law_word : Binds K d5 ["_law_src", "_law_many"] [])
    (F_is_name : Fun K "is_name" "is_name" s_name f6 d6) (m6 : mg "is_name" = some (.ref f6)) (b_is_name : Binds K d6 ["text"] [])
    (F__law_is_name : Fun K "_law_is_name" "_law_is_name" s_lname f7 d7) (m7 : mg "_law_is_name" = some (.ref f7)) (b__law_is_name : Binds K d7 ["_law_text"] []) :
    FnG P w K mg base CX0 4 f fd ["_law_script"] (spLaw K) := by
  have G__law_source : FnG P w K mg base CX0 1 f1 d1 ["_law_script"] (spSource K) := ok_source F__law_source T
  have G__law_draw : FnG P w K mg base CX0 1 f2 d2 ["_law_src", "_law_many"] spDraw := ok_draw F__law_draw T
  have G__law_of : FnG P w K mg base CX0 2 f3 d3 ["_law_src", "_law_some"] (spOf K) := ok_of F__law_of T F__law_draw m2 b__law_draw
  have G__law_same : FnG P w K mg base CX0 1 f4 d4 ["_law_found", "_law_due"] (spSame K) := ok_same F__law_same T
  have G__law_word : FnG P w K mg base CX0 3 f5 d5 ["_law_src", "_law_many"] spWord := ok_word F__law_word T F__law_of m3 b__law_of G__law_of
  have G_is_name : FnG P w K mg base CX0 1 f6 d6 ["text"] spName := ok_name F_is_name T gL gA
  have G__law_is_name : FnG P w K mg base CX0 1 f7 d7 ["_law_text"] spName := ok_lname F__law_is_name T
  refine okG F sc_law (fun vs H Q E h => ?_) (fun cdv A outer s H vs Q E hG hr h => ?_)
  · obtain ⟨a, ns, rfl, _⟩ := h
    rfl
  · obtain ⟨a, ns, rfl, hL, k⟩ := h
    refine ⟨_, (pss_cons (ps_set (i := 1) sc_law.nd rfl (by first | exact Or.inl rfl | exact Or.inr rfl) (pe_callG G__law_source hG (hr.mono (by decide)) (by rfl) m1 F__law_source.kp b__law_source .nil pass0 (pa_cons (pv 0) pa_nil)))
  (pss_cons (ps_set (i := 2) sc_law.nd rfl (by first | exact Or.inl rfl | exact Or.inr rfl) pe_str)
  (pss_cons (ps_for PassesOwn.never rfl (pi_range1 (by rfl) T.n_range (pa_cons pe_int pa_nil)) (pg_name (i := 3) sc_law.nd rfl (by first | exact Or.inl rfl | exact Or.inr rfl))
    (pss_cons (ps_set (i := 4) sc_law.nd rfl (by first | exact Or.inl rfl | exact Or.inr rfl) (pe_callG G__law_word hG (hr.mono (by decide)) (by rfl) m5 F__law_word.kp b__law_word .nil pass0 (pa_cons (pv 1) (pa_cons (pe_callG G__law_draw hG (hr.mono (by decide)) (by rfl) m2 F__law_draw.kp b__law_draw .nil pass0 (pa_cons (pv 1) (pa_cons pe_int pa_nil))) pa_nil))))
      (Evl.pss_cut (ps_if (pt_cmpR op_eq (pe_callG G__law_draw hG (hr.mono (by decide)) (by rfl) m2 F__law_draw.kp b__law_draw .nil pass0 (pa_cons (pv 1) (pa_cons pe_int pa_nil))) pe_int (nomark _))
        (pss_cons (ps_set (i := 5) sc_law.nd rfl (by first | exact Or.inl rfl | exact Or.inr rfl) (pe_callG G__law_draw hG (hr.mono (by decide)) (by rfl) m2 F__law_draw.kp b__law_draw .nil pass0 (pa_cons (pv 1) (pa_cons (pe_op op_add (pe_callB call_len_str (by rfl) T.n_len (by decide +kernel) (pa_cons (pv 4) pa_nil)) pe_int) pa_nil))))
          (pss_one (ps_set (i := 4) sc_law.nd rfl (by first | exact Or.inl rfl | exact Or.inr rfl) (pe_op op_add_str (pe_op op_add_str (pe_slice sl_str (pv 4) po_none (po_some (pv 5))) (pe_callG G__law_of hG (hr.mono (by decide)) (by rfl) m3 F__law_of.kp b__law_of .nil pass0 (pa_cons (pv 1) (pa_cons (pe_lc (own := [("_law_sign", 6)]) (g := gName 6) (tt := tYes) rfl sc_law.nd (pi_str (pv 2)) (blkOk_by (own := [("_law_sign", 6)]) (N := ["_law_script", "_law_src", "_law_signs", "_law_turn", "_law_text", "_law_at", "_law_sign"]) (sc := defScope (top 14)) (by decide +kernel)) (fun _ _ _ _ _ => (pg_name (i := 6) sc_law.nd rfl (by first | exact Or.inl rfl | exact Or.inr rfl))) (fun _ _ _ _ _ => pts_nil) (fun _ _ _ _ _ => (pv 6))) pa_nil)))) (pe_slice sl_str (pv 4) (po_some (pv 5)) po_none)))))
        pss_nil)
      (pss_one (ps_if (pt_not (pt_val (pe_callG G__law_same hG (hr.mono (by decide)) (by rfl) m4 F__law_same.kp b__law_same .nil pass0 (pa_cons (pe_callG G_is_name hG (hr.mono (by decide)) (by rfl) m6 F_is_name.kp b_is_name .nil pass0 (pa_cons (pv 4) pa_nil)) (pa_cons (pe_callG G__law_is_name hG (hr.mono (by decide)) (by rfl) m7 F__law_is_name.kp b__law_is_name .nil pass0 (pa_cons (pv 4) pa_nil)) pa_nil)))))
        (pss_one (ps_ret pe_bl))
        pss_nil)))))
  (pss_one (ps_ret (pe_callG G__law_same hG (hr.mono (by decide)) (by rfl) m4 F__law_same.kp b__law_same .nil pass0 (pa_cons (pe_lst (pa_cons (pe_glob (v := .int 4) (by rfl) g3 ⟨_, rfl⟩) (pa_cons (pe_glob (v := .int 6) (by rfl) g4 ⟨_, rfl⟩) (pa_cons (pe_glob (v := .int 3) (by rfl) g5 ⟨_, rfl⟩) (pa_cons (pe_callG G_is_name hG (hr.mono (by decide)) (by rfl) m6 F_is_name.kp b_is_name .nil pass0 (pa_cons pe_str pa_nil)) pa_nil))))) (pa_cons (pe_lst (pa_cons pe_int (pa_cons pe_int (pa_cons pe_int (pa_cons pe_bl pa_nil))))) pa_nil)))))))), ?_⟩
    try dsimp only [cxOf, Cx.nox, Cx.wish]
    walk_at "rd"
    refine ⟨a, ns, rfl, hL, fun p la H1 np hs1 hS1 => ?_⟩
    walk_at "rd"
    have same : ∀ (b : Bool) (H : Hp) (Q : VK), Q (.bl true) H → spSame K [.bl b, .bl b] H Q E0 := fun b H Q q =>
      ⟨.bl b, .bl b, .bool b, rfl, .bl b, .bl b, rfl, rfl, (by cases b <;> decide +kernel), (by cases b <;> decide +kernel), q⟩
    refine for_R 0 12 (fun i σ H2 => (∃ c3 c4 c5, σ = [some (.ref a), some (.ref p), some (.str signs), c3, c4, c5, none]) ∧ Src H2 p la)
      ⟨⟨_, _, _, rfl⟩, hS1⟩ ?_ ?_
    · rintro i σ H2 hi ⟨⟨c3, c4, c5, rfl⟩, hS2⟩
      walk_at "rd"
      refine ⟨p, la, 12, rfl, by decide, by decide, hS2, fun j H3 j0 j1 hS3 hB3 => ?_⟩
      walk_at "rd"
      obtain ⟨n, rfl⟩ := Int.eq_ofNat_of_zero_le j0
      refine ⟨p, la, n, rfl, by omega, hS3, fun cs H4 hc _ hS4 _ => ?_⟩
      walk_at "rd"
      have hlen : (txt cs).length ≤ 12 := by
        show (cs.toArray).size ≤ 12
        rw [List.size_toArray, hc]
        omega
      refine r_cut (fun σ H5 => (∃ (z : Str) (c3 c5 : Option V), σ = [some (.ref a), some (.ref p), some (.str signs), c3, some (.str z), c5, none] ∧ z.length ≤ 100) ∧ Src H5 p la) ?_ ?_
      · walk_at "rd"
        refine ⟨p, la, 3, rfl, by decide, by decide, hS4, fun j H5 _ _ hS5 _ => ?_⟩
        walk_at "rd"
        refine ite_b (fun _ => ?_) (fun _ => ⟨⟨_, _, _, rfl, by omega⟩, hS5⟩)
        walk_at "rd"
        refine ⟨p, la, _, rfl, by omega, by omega, hS5, fun j H6 _ _ hS6 _ => ?_⟩
        have hl0 := cutS_length (txt cs) none (some j)
        have hl1 := cutS_length (txt cs) (some j) none
        walk_at "rd"
        refine lc_S signs (fun D i acc H' => (∃ xs : List Nat, acc = xs.map (fun c => V.str (one c)) ∧ xs.length = i) ∧ Same H6 H')
          (fun D nD => ⟨⟨[], rfl, rfl⟩, Same.new nD⟩) ?_ ?_
        · rintro D i acc c H7 hi nD hl hA ⟨⟨xs, rfl, hx⟩, hs⟩
          walk_at "rd"
          refine ⟨rfl, ?_⟩
          walk_at "rd"
          refine ite_t rfl ?_
          walk_at "rd"
          have := (Array.getElem?_eq_some_iff.mp hi).1
          have e : signs.cps.size ≤ 100 := by decide +kernel
          refine lc_put hA hl (by omega) ⟨⟨xs ++ [c], ?_, ?_⟩, same_set hs nD⟩
          · rw [List.map_append]
            rfl
          · rw [List.length_append, hx]
            rfl
        · rintro D acc H7 nD hl ⟨⟨xs, rfl, hx⟩, hs⟩ hA
          walk_at "rd"
          have e1 : signs.cps.size ≤ 100 := by decide +kernel
          have e2 : 0 < signs.cps.size := by decide +kernel
          refine ⟨p, la, D, _, rfl, SqL.of hA, (hS6.apart nD).1, ?_, by omega, hS6.ext hs, fun x H8 hx' hS8 _ => ?_⟩
          · rw [← hx] at e2
            exact List.ne_nil_of_length_pos (by rw [List.length_map]; exact e2)
          obtain ⟨c, _, rfl⟩ := List.mem_map.mp hx'
          have l1 : (one c).length = 1 := rfl
          walk_at "rd"
          refine ⟨⟨_, _, _, rfl, ?_⟩, hS8⟩
          rw [strLen_append, strLen_append]
          omega
      · rintro σ H5 ⟨⟨z, c3, c5, rfl, hz⟩, hS5⟩
        walk_at "rd"
        refine ⟨z, rfl, by omega, fun H6 hs6 => ?_⟩
        walk_at "rd"
        refine ⟨z, rfl, by omega, fun H7 hs7 => ?_⟩
        walk_at "rd"
        refine same _ _ _ ?_
        walk_at "rd"
        refine ite_f rfl ?_
        walk_at "rd"
        exact ⟨⟨_, _, _, rfl⟩, (hS5.ext hs6).ext hs7⟩
    · rintro σ H2 ⟨⟨c3, c4, c5, rfl⟩, hS2⟩
      walk_at "rd"
      refine ⟨Str.empty, rfl, by decide, fun H3 hs3 => ?_⟩
      walk_at "rd"
      intro q nq
      walk_at "rd"
      intro r nr
      walk_at "rd"
      have e0 : isNm Str.empty = false := by decide +kernel
      have sh : ∀ (K : PySem.W.Frag) (H : Hp), DpAll K H [.int 4, .int 6, .int 3, .bl false] [.int 4, .int 6, .int 3, .bool false] :=
        fun K H => .cons (.int 4) (.cons (.int 6) (.cons (.int 3) (.cons (.bl false) .nil)))
      refine ⟨.ref q, .ref r, .list [.int 4, .int 6, .int 3, .bool false], rfl, .lst (SqL.of ?_) (sh _ _), .lst (SqL.of upd_same) (sh _ _),
        by decide +kernel, by decide +kernel, by decide +kernel, by decide +kernel, k _⟩
      rw [← e0]
      exact at_upd nr upd_same
end
end Toy

set_option Elab.async false
set_option linter.all false
set_option maxRecDepth 100000
namespace Toy
open PySem L2 GX PySem.Spec TL
/-! ### what the top has left, and the law's head -/
theorem all_mk {l : PySem.W.OpenLaw} {w : World} {K : PySem.W.Frag} {h : Heap} {mg : Str → Option Value} {fa : Addr} (X : K.In h) (G : h.Ns mainGlobals mg) (hfa : mg "law" = some (.ref fa))
    {f0 : Addr} {od0 an0 : Option Addr} {sl0 : Array (Option Value)} {oc0 kV0 dc0 pm0 cd0 ct0 : Value}
    {f1 : Addr} {od1 an1 : Option Addr} {sl1 : Array (Option Value)} {oc1 kV1 dc1 pm1 cd1 ct1 : Value}
    {f2 : Addr} {od2 an2 : Option Addr} {sl2 : Array (Option Value)} {oc2 kV2 dc2 pm2 cd2 ct2 : Value}
    {f3 : Addr} {od3 an3 : Option Addr} {sl3 : Array (Option Value)} {oc3 kV3 dc3 pm3 cd3 ct3 : Value}
    {f4 : Addr} {od4 an4 : Option Addr} {sl4 : Array (Option Value)} {oc4 kV4 dc4 pm4 cd4 ct4 : Value}
    {f5 : Addr} {od5 an5 : Option Addr} {sl5 : Array (Option Value)} {oc5 kV5 dc5 pm5 cd5 ct5 : Value}
    {f6 : Addr} {od6 an6 : Option Addr} {sl6 : Array (Option Value)} {oc6 kV6 dc6 pm6 cd6 ct6 : Value}
    {f7 : Addr} {od7 an7 : Option Addr} {sl7 : Array (Option Value)} {oc7 kV7 dc7 pm7 cd7 ct7 : Value}
    {u_LONGEST_NAME : Tok}
    {u_LETTERS : Tok}
    {u_MOST_KINDS : Tok}
    {u_MOST_CONSTRUCTORS : Tok}
    {u_MOST_PARTS : Tok}
    (a0 : PySem.W.nsIn K mainGlobals "_law_source" = some (some (.ref f0))) (l0 : K.lookup f0 = some ⟨oc0, od0, .func (PySem.W.fnOf "_law_source" "_law_source" (defArgs s_source) (defBody s_source) (defScope s_source) .none kV0 dc0 pm0 an0 cd0 ct0), sl0⟩) (c0 : PySem.W.codeIn K cd0 "_law_source" = true) (k0 : PySem.W.keepIn K (.ref f0) = true)
    (a1 : PySem.W.nsIn K mainGlobals "_law_draw" = some (some (.ref f1))) (l1 : K.lookup f1 = some ⟨oc1, od1, .func (PySem.W.fnOf "_law_draw" "_law_draw" (defArgs s_draw) (defBody s_draw) (defScope s_draw) .none kV1 dc1 pm1 an1 cd1 ct1), sl1⟩) (c1 : PySem.W.codeIn K cd1 "_law_draw" = true) (k1 : PySem.W.keepIn K (.ref f1) = true)
    (a2 : PySem.W.nsIn K mainGlobals "_law_of" = some (some (.ref f2))) (l2 : K.lookup f2 = some ⟨oc2, od2, .func (PySem.W.fnOf "_law_of" "_law_of" (defArgs s_of) (defBody s_of) (defScope s_of) .none kV2 dc2 pm2 an2 cd2 ct2), sl2⟩) (c2 : PySem.W.codeIn K cd2 "_law_of" = true) (k2 : PySem.W.keepIn K (.ref f2) = true)
    (a3 : PySem.W.nsIn K mainGlobals "_law_same" = some (some (.ref f3))) (l3 : K.lookup f3 = some ⟨oc3, od3, .func (PySem.W.fnOf "_law_same" "_law_same" (defArgs s_same) (defBody s_same) (defScope s_same) .none kV3 dc3 pm3 an3 cd3 ct3), sl3⟩) (c3 : PySem.W.codeIn K cd3 "_law_same" = true) (k3 : PySem.W.keepIn K (.ref f3) = true)
    (a4 : PySem.W.nsIn K mainGlobals "_law_word" = some (some (.ref f4))) (l4 : K.lookup f4 = some ⟨oc4, od4, .func (PySem.W.fnOf "_law_word" "_law_word" (defArgs s_word) (defBody s_word) (defScope s_word) .none kV4 dc4 pm4 an4 cd4 ct4), sl4⟩) (c4 : PySem.W.codeIn K cd4 "_law_word" = true) (k4 : PySem.W.keepIn K (.ref f4) = true)
    (a5 : PySem.W.nsIn K mainGlobals "is_name" = some (some (.ref f5))) (l5 : K.lookup f5 = some ⟨oc5, od5, .func (PySem.W.fnOf "is_name" "is_name" (defArgs s_name) (defBody s_name) (defScope s_name) .none kV5 dc5 pm5 an5 cd5 ct5), sl5⟩) (c5 : PySem.W.codeIn K cd5 "is_name" = true) (k5 : PySem.W.keepIn K (.ref f5) = true)
    (a6 : PySem.W.nsIn K mainGlobals "_law_is_name" = some (some (.ref f6))) (l6 : K.lookup f6 = some ⟨oc6, od6, .func (PySem.W.fnOf "_law_is_name" "_law_is_name" (defArgs s_lname) (defBody s_lname) (defScope s_lname) .none kV6 dc6 pm6 an6 cd6 ct6), sl6⟩) (c6 : PySem.W.codeIn K cd6 "_law_is_name" = true) (k6 : PySem.W.keepIn K (.ref f6) = true)
    (a7 : PySem.W.nsIn K mainGlobals "law" = some (some (.ref f7))) (l7 : K.lookup f7 = some ⟨oc7, od7, .func (PySem.W.fnOf "law" "law" (defArgs s_law) (defBody s_law) (defScope s_law) .none kV7 dc7 pm7 an7 cd7 ct7), sl7⟩) (c7 : PySem.W.codeIn K cd7 "law" = true) (k7 : PySem.W.keepIn K (.ref f7) = true)
    (v_LONGEST_NAME : PySem.W.nsIn K mainGlobals "LONGEST_NAME" = some (some (.int 8 u_LONGEST_NAME)))
    (v_LETTERS : PySem.W.nsIn K mainGlobals "LETTERS" = some (some (.str alphabet u_LETTERS)))
    (v_MOST_KINDS : PySem.W.nsIn K mainGlobals "MOST_KINDS" = some (some (.int 4 u_MOST_KINDS)))
    (v_MOST_CONSTRUCTORS : PySem.W.nsIn K mainGlobals "MOST_CONSTRUCTORS" = some (some (.int 6 u_MOST_CONSTRUCTORS)))
    (v_MOST_PARTS : PySem.W.nsIn K mainGlobals "MOST_PARTS" = some (some (.int 3 u_MOST_PARTS)))
    (z_int : PySem.W.nsIn K mainGlobals "int" = some none)
    (z_len : PySem.W.nsIn K mainGlobals "len" = some none)
    (z_list : PySem.W.nsIn K mainGlobals "list" = some none)
    (z_range : PySem.W.nsIn K mainGlobals "range" = some none)
    (z_repr : PySem.W.nsIn K mainGlobals "repr" = some none)
    (z_all : PySem.W.nsIn K mainGlobals "all" = some none) :
    ∃ fd : FuncData, (∀ (s : Shared) (v : Value), BindsTo s fd ⟨[v], []⟩ [("_law_script", v)]) ∧ ∀ base : Heap, K.In base → base.Ns mainGlobals mg → FnG l.prog w K mg base CX0 4 fa fd ["_law_script"] (spLaw K) := by
  have e := hfa.symm.trans (PySem.W.mg_of X G a7)
  cases e
  have T : Blt mg := { n_int := PySem.W.mg_none_of X G z_int, n_len := PySem.W.mg_none_of X G z_len, n_list := PySem.W.mg_none_of X G z_list, n_range := PySem.W.mg_none_of X G z_range, n_repr := PySem.W.mg_none_of X G z_repr, n_all := PySem.W.mg_none_of X G z_all }
  have F0 := fun_mk (st := s_source) l0 c0 k0
  have b0 := F0.binds (ps := ["_law_script"]) fun _ _ _ _ _ _ us hl => match us, hl with | [_], _ => rfl
  have F1 := fun_mk (st := s_draw) l1 c1 k1
  have b1 := F1.binds (ps := ["_law_src", "_law_many"]) fun _ _ _ _ _ _ us hl => match us, hl with | [_, _], _ => rfl
  have F2 := fun_mk (st := s_of) l2 c2 k2
  have b2 := F2.binds (ps := ["_law_src", "_law_some"]) fun _ _ _ _ _ _ us hl => match us, hl with | [_, _], _ => rfl
  have F3 := fun_mk (st := s_same) l3 c3 k3
  have b3 := F3.binds (ps := ["_law_found", "_law_due"]) fun _ _ _ _ _ _ us hl => match us, hl with | [_, _], _ => rfl
  have F4 := fun_mk (st := s_word) l4 c4 k4
  have b4 := F4.binds (ps := ["_law_src", "_law_many"]) fun _ _ _ _ _ _ us hl => match us, hl with | [_, _], _ => rfl
  have F5 := fun_mk (st := s_name) l5 c5 k5
  have b5 := F5.binds (ps := ["text"]) fun _ _ _ _ _ _ us hl => match us, hl with | [_], _ => rfl
  have F6 := fun_mk (st := s_lname) l6 c6 k6
  have b6 := F6.binds (ps := ["_law_text"]) fun _ _ _ _ _ _ us hl => match us, hl with | [_], _ => rfl
  have F7 := fun_mk (st := s_law) l7 c7 k7
  exact ⟨_, fun s v => .of_eq rfl, fun base _ _ => ok_law F7 T (PySem.W.mg_of X G v_LONGEST_NAME) (PySem.W.mg_of X G v_LETTERS) (PySem.W.mg_of X G v_MOST_KINDS) (PySem.W.mg_of X G v_MOST_CONSTRUCTORS) (PySem.W.mg_of X G v_MOST_PARTS) F0 (PySem.W.mg_of X G a0) b0 F1 (PySem.W.mg_of X G a1) b1 F2 (PySem.W.mg_of X G a2) b2 F3 (PySem.W.mg_of X G a3) b3 F4 (PySem.W.mg_of X G a4) b4 F5 (PySem.W.mg_of X G a5) b5 F6 (PySem.W.mg_of X G a6) b6⟩
theorem walk {l : PySem.W.OpenLaw} {q : Program} {loose : List Str} {XP : (Str → Option Value) → Heap → Prop} {YP : World → Heap → Prop} {d : DefRec} {K : Params → PySem.W.Frag} (hn : l.most = some 63)
    (hdf : d.params.defaults = []) (hY : ∀ (w : World) (h : Heap), YP w h → (K w.params).In h)
    (F : ∀ (w : World) (mg : Str → Option Value) (fa : Addr) (h : Heap), (K w.params).In h → h.Ns mainGlobals mg → mg d.name = some (.ref fa) →
      ∃ fd : FuncData, (∀ (s : Shared) (u : Value), BindsTo s fd ⟨[u], []⟩ [("_law_script", u)]) ∧ ∀ base : Heap, (K w.params).In base → base.Ns mainGlobals mg →
        FnG l.prog w (K w.params) mg base CX0 4 fa fd ["_law_script"] (spLaw (K w.params))) :
    PySem.W.WalkO q loose XP YP l.row.toRowW d [] (fun f vs => PySem.call f vs) :=
  walk_ofG (n := 63) (k := 4) (x := "_law_script") (CX := fun _ => CX0) (sp := fun w => spLaw (K w.params)) hn (by decide) hdf ⟨rfl, by decide, by decide⟩ hY F
    (fun _ _ a ns hl _ hS => ⟨a, ns, rfl, hS, fun _ => rfl⟩) fun _ _ _ _ _ z => z
end Toy
open PySem PySem.W PyProof.Rows
set_option maxRecDepth 100000 in
set_option maxHeartbeats 0 in
theorem PySem.Challenge.cw_fewvouch_k01_names_of_letters_holds : PySem.Challenge.rw_fewvouch_k01_names_of_letters.Holds := by
  w_on; o_law; k_head; (case hw => w_witness2)
  k_fill
  refine Toy.walk (l := PySem.Challenge.rw_fewvouch_k01_names_of_letters) rfl rfl (fun w h Y => PySem.W.kIn_of Y) ?F
  case F =>
    intro w mg fa h KX G hmg
    refine' Toy.all_mk KX G hmg ?a0 ?l0 ?c0 ?k0 ?a1 ?l1 ?c1 ?k1 ?a2 ?l2 ?c2 ?k2 ?a3 ?l3 ?c3 ?k3 ?a4 ?l4 ?c4 ?k4 ?a5 ?l5 ?c5 ?k5 ?a6 ?l6 ?c6 ?k6 ?a7 ?l7 ?c7 ?k7 ?v_LONGEST_NAME ?v_LETTERS ?v_MOST_KINDS ?v_MOST_CONSTRUCTORS ?v_MOST_PARTS ?z_int ?z_len ?z_list ?z_range ?z_repr ?z_all
    (case a0 => k_is)
    (case l0 => k_is)
    (case c0 => k_is)
    (case k0 => k_is)
    (case a1 => k_is)
    (case l1 => k_is)
    (case c1 => k_is)
    (case k1 => k_is)
    (case a2 => k_is)
    (case l2 => k_is)
    (case c2 => k_is)
    (case k2 => k_is)
    (case a3 => k_is)
    (case l3 => k_is)
    (case c3 => k_is)
    (case k3 => k_is)
    (case a4 => k_is)
    (case l4 => k_is)
    (case c4 => k_is)
    (case k4 => k_is)
    (case a5 => k_is)
    (case l5 => k_is)
    (case c5 => k_is)
    (case k5 => k_is)
    (case a6 => k_is)
    (case l6 => k_is)
    (case c6 => k_is)
    (case k6 => k_is)
    (case a7 => k_is)
    (case l7 => k_is)
    (case c7 => k_is)
    (case k7 => k_is)
    (case v_LONGEST_NAME => k_is)
    (case v_LETTERS => k_is)
    (case v_MOST_KINDS => k_is)
    (case v_MOST_CONSTRUCTORS => k_is)
    (case v_MOST_PARTS => k_is)
    (case z_int => k_is)
    (case z_len => k_is)
    (case z_list => k_is)
    (case z_range => k_is)
    (case z_repr => k_is)
    (case z_all => k_is)
#print axioms PySem.Challenge.cw_fewvouch_k01_names_of_letters_holds
