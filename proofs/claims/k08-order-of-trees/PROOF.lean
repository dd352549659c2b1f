import PyProof.Rows.All
import Wide.All
import OpenK.AllK
import Wide.FinOn
import HandS.ForMost
import HandS.Wide
import HandS.WideMore
import HandS.Evl
import HandS.Walk
import PyProof.ReprRoads
import HandS.Conv
import HandS.SetKeys
import HandS.More
import HandS.TupAny
import HandS.TupMul
import HandS.SortInts
import HandS.Deep
import HandS.Zip
import HandS.Rev
import HandS.TryOnly
import HandS.SetFor
import HandS.Strs
import KE.DataMinMax
import ObjForm.LawKit
import HandS.DictComp
import HandS.SortKw
import PyProof.Rows.ReprShort
import KE.KUnpackStar
import HandS.IsInst
import KE.DataCmp
import KE.GoesZip
import KE.GoesMore
import PySem.Challenge.RW_fewvouch_k08_whole_the_order_of_trees
set_option Elab.async false
set_option linter.all false
set_option maxRecDepth 100000
set_option maxHeartbeats 4000000
namespace GX
open PySem L2 PySem.Spec PyProof.Rows

/-! ### promises where no repr is under way -/
structure FnG (P : Program) (w : World) (K : PySem.W.Frag) (mg : Str → Option Value)
    (base : Heap) (CX : CXT) (k : Nat) (f : Addr) (fd : FuncData)
    (ps : List Str) (sp : Sp) : Prop where
  len : ∀ vs H Q E, sp vs H Q E → vs.length = ps.length
  run : ∀ (A : Around) (outer : List Env) (s : Shared) (H : Hp) (args : Args)
      (us : List Value) (vs : List V) (Q : VK) (E : XK), A.guards = some [] → Room k A →
      Env0 P w K mg base A outer s H → BindsTo s fd args (ps.zip us) → Vals vs us →
      sp vs H Q E → codeAny (model P w) A (.call (.ref f) args) (CR CX outer P w H s Q E) s

theorem FnG.mono {P : Program} {w : World} {K : PySem.W.Frag} {mg : Str → Option Value}
    {base : Heap} {CX : CXT} {j k : Nat} {f : Addr} {fd : FuncData} {ps : List Str} {sp : Sp}
    (F : FnG P w K mg base CX j f fd ps sp) (h : j ≤ k) : FnG P w K mg base CX k f fd ps sp where
  len := F.len
  run := fun A outer s H args us vs Q E g hr =>
    F.run A outer s H args us vs Q E g (hr.mono h)

section
variable {P : Program} {w : World} {K : PySem.W.Frag} {mg : Str → Option Value} {base : Heap}

theorem fnG_of {CX : CXT} {k : Nat} {f : Addr} {name qual : Str} {params : Arguments}
    {body : List Stmt} {scope : Scope} {dV kV doc pm cdv ct oc : Value} {an od : Option Addr}
    {osl : Array (Option Value)} {N ps : List Str} {sp : Sp}
    (lk : K.lookup f = some ⟨oc, od, .func
      (PySem.W.fnOf name qual params body scope dV kV doc pm an cdv ct), osl⟩)
    (hcd : PySem.W.codeIn K cdv qual = true) (S : FnScope N ps scope)
    (len : ∀ vs H Q E, sp vs H Q E → vs.length = ps.length)
    (hbody : ∀ (A : Around) (outer : List Env) (s : Shared) (H : Hp) (vs : List V)
      (Q : VK) (E : XK), A.guards = some [] →
      Room k (A.deeper (envOfC qual scope s.heap.objs.size f cdv)) → sp vs H Q E →
      ∃ t, PSs (cxOf CX P w K mg base N qual scope f cdv A outer s H E) body t ∧
        t { nx := fun _ H' => Q .non H', rt := Q } (start N vs) H) :
    FnG P w K mg base CX (k + 1) f
      (PySem.W.fnOf name qual params body scope dV kV doc pm an cdv ct) ps sp := by
  refine ⟨len, ?_⟩
  intro A outer s H args us vs Q E hg hr e0 hb r hsp
  have hl := len vs H Q E hsp
  have KX : K.In s.heap := e0.mod.kin.keeps (fun b o e => (e0.bs b o e).1)
  have lim := e0.mod.nolimit.keeps (fun b o e => (e0.bs b o e).1)
  have hkind : ∀ y ∈ ps.zip us, scope.names.lookup y.1 = some .local ∨
      (scope.names.lookup y.1 = some .cell ∧
        ((cellsFrom (s.heap.objs.size + 1) scope.names []).lookup y.1).isSome = true) := by
    rintro ⟨n, v⟩ hy
    rcases S.par n (List.of_mem_zip hy).1 with q | q
    · exact Or.inl q
    · exact Or.inr ⟨q, PySem.W.cellsFrom_some _ _ _ (Or.inl q)⟩
  refine codeAny_call_function hr.depth (KX _ _ lk) rfl S.co S.gen rfl
    (PySem.W.codeRec_of KX hcd) (hb _ _ _ _ ?_)
  refine wpAny_newFunctionEnv_cells S.kind hkind ?_
  intro env he s1 x
  subst he
  refine ⟨lim.keeps x.toInCall.keep, codeAny_func ?_⟩
  obtain ⟨t, ht, hq⟩ := hbody A outer s H vs Q E hg (hr.deeper _) hsp
  have I : Inv (cxOf CX P w K mg base N qual scope f cdv A outer s H E) []
      (start N vs) H s1 := inv_start S hr.hd e0 hl r x
  refine wpAny_mono (ht.run [] s1 (start N vs) H _ I hq) ?_ (fun e s' hs => hs)
  intro fl s' hs
  have fin : ∀ {σ' : L2.St} {H' : Hp} {v : V} {u : Value},
      Inv (cxOf CX P w K mg base N qual scope f cdv A outer s H E) [] σ' H' s' →
      RelV v u → Q v H' → CE outer P w H s Q u s' := by
    intro σ' H' v u J rv q
    exact ⟨v, H', J.os, J.bare, J.base, J.hok, rv, q⟩
  cases fl with
  | ret u =>
    obtain ⟨v, σ', H', J, rv, q⟩ := hs
    exact fin J rv q
  | next =>
    obtain ⟨σ', H', J, q⟩ := hs
    exact fin (v := V.non) (u := Value.none) J rfl q
  | brk => exact hs.elim fun _ z => z.elim fun _ z => z.2.elim
  | cont => exact hs.elim fun _ z => z.elim fun _ z => z.2.elim

/-- a def of the text that lets nothing out -/
theorem okG {x qual : Str} {st : Stmt} {f : Addr} {fd : FuncData} {N ps : List Str} {k : Nat}
    {sp : Sp} (F : Fun K x qual st f fd) (S : FnScope N ps (defScope st))
    (len : ∀ vs H Q E, sp vs H Q E → vs.length = ps.length)
    (hbody : ∀ (cdv : Value) (A : Around) (outer : List Env) (s : Shared) (H : Hp)
      (vs : List V) (Q : VK) (E : XK), A.guards = some [] →
      Room k (A.deeper (envOfC qual (defScope st) s.heap.objs.size f cdv)) → sp vs H Q E →
      ∃ t, PSs (cxOf CX0 P w K mg base N qual (defScope st) f cdv A outer s H E).nox
        (defBody st) t ∧ t { nx := fun _ H' => Q .non H', rt := Q } (start N vs) H) :
    FnG P w K mg base CX0 (k + 1) f fd ps sp := by
  obtain ⟨oc, od, kV, doc, pm, an, cdv, ct, osl, rfl, lk, hcd⟩ := F.ex
  refine fnG_of lk hcd S len ?_
  intro A outer s H vs Q E hg hr hsp
  obtain ⟨t, h, q⟩ := hbody cdv A outer s H vs Q E hg hr hsp
  exact ⟨t, h.nox, q⟩
end

section
variable {X : Cx} {CX : CXT} {k : Nat} {f C : Addr} {fd : FuncData} {ps : List Str} {sp : Sp}
  {dvs : List V} {ds : List Value} {E : XK} {x m : Str} {p pos apos : Pos} {e o : Expr}
  {es : List Expr} {ta : TE} {t : TA}

theorem run_fnG {pins : List (Addr × Obj)} {σ : L2.St} {H : Hp} {s : Shared} {Q : VK}
    {us : List Value} {vs : List V} (F : FnG X.prog X.w X.K X.mg X.base CX k f fd ps sp)
    (hg : X.A.guards = some []) (hr : Room k X.A) (hb : Binds X.K fd ps ds)
    (hd : Vals dvs ds) (hx : Passes CX X E) (I : Inv X pins σ H s) (r : Vals vs us)
    (h : sp (vs ++ dvs) H Q E) :
    wpAny (model X.prog X.w) X.A (call (.ref f) us) (EP X pins σ Q) X.xe s := by
  have r2 := r.append hd
  have hl : (us ++ ds).length = ps.length := r2.length ▸ F.len _ _ _ _ h
  have z := F.run X.A X.stack s H ⟨us, []⟩ (us ++ ds) (vs ++ dvs) Q E hg hr I.env0
    (hb s us I.kIn hl) r2 h
  refine wpAny_call (codeAny_mono z ?_)
  intro r s' hq
  match r, hq with
  | .error e, hq => exact hx pins σ H s e s' I hq
  | .ok (.ret u), hq => exact I.after hq

theorem pe_callG (F : FnG X.prog X.w X.K X.mg X.base CX k f fd ps sp)
    (hG : X.A.guards = some []) (hr : Room k X.A) (hg : Gl X x) (hm : X.mg x = some (.ref f))
    (hk : PySem.W.keepIn X.K (.ref f) = true) (hb : Binds X.K fd ps ds) (hd : Vals dvs ds)
    (hx : Passes CX X E) (ha : PA X (e :: es) t)
    (hdb : (x == ("__debug__" : Str)) = false := by decide)
    (he : starEach (e :: es) X.env = (false, eval e X.env) :: starEach es X.env := by rfl)
    (hpl : (backTo pos (starEach es X.env)).any (·.1) = false := by rfl) :
    PE X (.Call (.Name x p) (e :: es) [] pos) (tCall sp dvs E t) := by
  constructor
  intro pins s σ H Q I h
  refine wpAny_Call_Name_kw (ld_glob I hg hm ?_ hdb)
  refine PySem.W.callWith_K (h₀ := X.base) I.ok.mod.kin hk ?_ he hpl
  refine thn (ha.run pos pins s σ H _ I h) ?_
  rintro us s1 ⟨vs, H1, I1, r, q⟩
  exact ⟨I1.kIn, run_fnG F hG hr hb hd hx I1 r q⟩

theorem pe_call0G (F : FnG X.prog X.w X.K X.mg X.base CX k f fd ps sp)
    (hG : X.A.guards = some []) (hr : Room k X.A) (hg : Gl X x) (hm : X.mg x = some (.ref f))
    (hk : PySem.W.keepIn X.K (.ref f) = true) (hb : Binds X.K fd ps ds) (hd : Vals dvs ds)
    (hx : Passes CX X E) (hdb : (x == ("__debug__" : Str)) = false := by decide) :
    PE X (.Call (.Name x p) [] [] pos) (tCall sp dvs E tNil) := by
  constructor
  intro pins s σ H Q I h
  refine wpAny_Call_Name_kw (ld_glob I hg hm ?_ hdb)
  exact PySem.W.callWith_K0 I.kIn hk (run_fnG (us := []) F hG hr hb hd hx I .nil h)
end

/-! ### repr of data -/
theorem text_room : ∀ n : Nat, n + 64 ≤ 16777216 → n ≤ sizeLine := by
  intro n h
  rw [sizeLine_eq]
  omega
/-- repr(x), x data without dicts -/
def rRepr (K : PySem.W.Frag) : List V → Hp → VK → Prop := fun xs H Q =>
  ∃ (x : V) (d : PyData), xs = [x] ∧ Dp K H x d ∧ d.showable = true ∧ d.hasDict = false ∧
    d.depth ≤ 40 ∧ d.shown.length + 64 ≤ 16777216 ∧ Q (.str d.shown) H
theorem call_reprD {X : Cx} (hG : X.A.guards = some []) (hu : X.A.units + 64 < cLine) :
    CallR X (.builtin "repr") (rRepr X.K) := by
  intro pins s σ H xs us Q I r h
  obtain ⟨x, d, rfl, hd, hs, hn, hdep, hz, q⟩ := h
  have hz' := text_room _ hz
  cases r with
  | cons r1 r2 =>
    cases r2
    have big : ∀ (u : Addr), RelV x (.ref u) → wpAny (model X.prog X.w) X.A
        (call (.builtin "repr") [.ref u]) (EP X pins σ Q) X.xe s := by
      intro u ru
      obtain ⟨as, hr⟩ := Dp.reads I d x _ hd ru
      refine repr_of_reads' (h₀ := s.heap) hr hs (fun e => ?_) hG (by omega)
        (fun _ _ e => e) ?_ hz'
      · rw [hn] at e
        cases e
      · intro h' u' tk hk
        exact ⟨.str d.shown, H, I.kept hk, ⟨_, rfl⟩, q⟩
    cases hd with
    | non =>
      cases r1
      exact PySem.P.repr_of_none ⟨.str _, H, I.tok _, ⟨_, rfl⟩, by simpa only [PyData.shown] using q⟩
    | bl b =>
      cases r1
      exact PySem.P.repr_of_bool ⟨.str _, H, I.tok _, ⟨_, rfl⟩, by simpa only [PyData.shown] using q⟩
    | int i =>
      obtain ⟨tk, rfl⟩ := r1
      have hi : i.natAbs.log2 < 1920 := by simpa [PyData.showable] using hs
      exact PySem.P.repr_of_int hi ⟨.str _, H, I.tok _, ⟨_, rfl⟩, by simpa only [PyData.shown] using q⟩
    | str z =>
      obtain ⟨tk, rfl⟩ := r1
      exact PySem.P.repr_of_str ⟨.str _, H, I.tok _, ⟨_, rfl⟩, by simpa only [PyData.shown] using q⟩
        (by simpa only [PyData.shown] using hz')
    | lst h1 h2 =>
      cases r1
      exact big _ rfl
    | tup h1 h2 =>
      cases r1
      exact big _ rfl

/-! ### the law's head -/
section
variable {P : Program} {w : World} {K : PySem.W.Frag} {mg mb : Str → Option Value}
  {CX : CXT} {k : Nat} {fa a : Addr} {fd : FuncData} {x : Str} {sp : Sp} {s1 : Shared}
  {vs : List Value} {ns : List Int}

/-- what is asked of the law's call: True, and what stood stands -/
def LawEnd (s1 : Shared) (r : Result) (s' : Shared) : Prop :=
  r = .ok (.ret (.bool true)) ∧ OldK s1.heap s'.heap ∧ s'.os = s1.os ∧ AllBare s'.gens

theorem law_core (KX : K.In s1.heap) (hns : s1.heap.Ns mainGlobals mg)
    (hb : s1.heap.Ns builtinsNs mb) (hbb : ∀ y : Str, y ≠ "__name__" → mb y = bootBuiltins y)
    (hlim : s1.heap.NoLimit) (hgen : s1.gens = #[])
    (ha : s1.heap.get? a = some { cls := .type "list", data := .seq vs.toArray })
    (hr : Room k callerA)
    (F : ∀ base : Heap, K.In base → base.Ns mainGlobals mg →
      FnG P w K mg base CX k fa fd [x] sp)
    (hbind : ∀ (s : Shared) (u : Value), BindsTo s fd ⟨[u], []⟩ [(x, u)])
    (hsp : ∀ H : Hp, Only H → SqL K H a (ns.map V.int) →
      sp [.ref a] H (fun v _ => v = .bl true) fun _ _ _ => False)
    (hCX : ∀ H e s', CX [] H s1 (fun _ _ _ => False) e s' → False)
    (H : Hp) (hO : Only H) (hS : SqL K H a (ns.map V.int)) (hok : HOk P w H s1.heap)
    (hA : ∀ b, H b ≠ none → b = a) (hK : H a ≠ none → K.lookup a = none) :
    codeAny (model P w) callerA (.call (.ref fa) ⟨[.ref a], []⟩) (LawEnd s1) s1 := by
  have dict_free : ∀ {b : Addr} {o : Obj} {es : Array DictEntry} {ep : Nat},
      s1.heap.get? b = some o → o.data = .dict es ep → H b = none := by
    intro b o es ep e d
    cases q : H b with
    | none => rfl
    | some u =>
      have e' : b = a := hA b (by rw [q]; simp)
      subst e'
      rw [ha] at e
      cases e
      cases d
  have nsK : ∀ {b : Addr} {m : Str → Option Value}, s1.heap.Ns b m →
      (hidT s1.heap H).Ns b m := by
    rintro b m ⟨o, es, ep, e, d, r⟩
    exact ⟨o, es, ep, hidT_get e (dict_free e d), d, r⟩
  have hKb : K.In (hidT s1.heap H) := by
    intro b o e
    refine hidT_get (KX b o e) ?_
    cases q : H b with
    | none => rfl
    | some u =>
      have e' : b = a := hA b (by rw [q]; simp)
      subst e'
      rw [hK (by rw [q]; simp)] at e
      cases e
  have hlim' : (hidT s1.heap H).NoLimit := by
    obtain ⟨mc, h1, h2⟩ := hlim
    exact ⟨mc, nsK h1, h2⟩
  have hM : Mod K mg (hidT s1.heap H) := ⟨hKb, nsK hns, ⟨mb, nsK hb, hbb⟩, hlim'⟩
  have e0 : Env0 P w K mg (hidT s1.heap H) callerA [] s1 H := by
    refine ⟨rfl, hM, fun b o e => of_hidT e, Nat.le_of_eq (hidT_size _ _), trivial, ?_,
      hok, .of_eq hgen⟩
    intro b hb
    exact absurd (show b ∈ ([] : List Addr) from hb) (by simp)
  have z := (F _ hKb (nsK hns)).run callerA [] s1 H ⟨[.ref a], []⟩ [.ref a] [.ref a] _ _
    rfl hr e0 (hbind s1 (.ref a)) (.cons rfl .nil) (hsp H hO hS)
  refine codeAny_mono z ?_
  intro r s' h
  match r, h with
  | .error e, h => exact (hCX H e s' h).elim
  | .ok (.ret u), h =>
    obtain ⟨v, H', os, bare, un, hok', r', q⟩ := h
    have q' : v = .bl true := q
    subst q'
    obtain rfl : u = Value.bool true := r'
    refine ⟨rfl, OldK.of_keep ?_, os, bare⟩
    intro b o e
    cases q : H b with
    | none => exact un.keep b o e q (fun z => by cases z) (fun z => by cases z)
    | some u =>
      rcases hO b with z | ⟨ob, xs, z⟩
      · rw [q] at z
        cases z
      · have z2 := un.frzs b ob _ z
        obtain ⟨e1, _⟩ := hok b _ z
        obtain ⟨e2, _⟩ := hok' b _ z2
        rw [e] at e1
        cases e1
        exact e2

theorem law_callG (KX : K.In s1.heap) (hns : s1.heap.Ns mainGlobals mg)
    (hb : s1.heap.Ns builtinsNs mb) (hbb : ∀ y : Str, y ≠ "__name__" → mb y = bootBuiltins y)
    (hlim : s1.heap.NoLimit) (hgen : s1.gens = #[])
    (ha : s1.heap.get? a = some { cls := .type "list", data := .seq vs.toArray })
    (hi : IntsAre vs ns) (hl : ns.length ≤ sizeLine) (hr : Room k callerA)
    (F : ∀ base : Heap, K.In base → base.Ns mainGlobals mg →
      FnG P w K mg base CX k fa fd [x] sp)
    (hbind : ∀ (s : Shared) (u : Value), BindsTo s fd ⟨[u], []⟩ [(x, u)])
    (hsp : ∀ H : Hp, Only H → SqL K H a (ns.map V.int) →
      sp [.ref a] H (fun v _ => v = .bl true) fun _ _ _ => False)
    (hCX : ∀ H e s', CX [] H s1 (fun _ _ _ => False) e s' → False) :
    codeAny (model P w) callerA (.call (.ref fa) ⟨[.ref a], []⟩) (LawEnd s1) s1 := by
  have rv := vals_ints hi
  have lenV := hi.length
  have core := law_core (x := x) KX hns hb hbb hlim hgen ha hr F hbind hsp hCX
  cases hk : K.lookup a with
  | some o =>
    have e := KX a o hk
    rw [ha] at e
    cases e
    refine core (fun _ => none) (fun _ => .inl rfl) (.inr ?_) (fun b u z => ?_)
      (fun b z => absurd rfl z) (fun z => absurd rfl z)
    · exact ⟨_, vs.toArray, _, hk, rfl, rfl, rfl,
        by rw [List.size_toArray, lenV]; exact hl, by simpa using rv⟩
    · have z' : (none : Option HO) = some u := z
      cases z'
  | none =>
    let o0 : Obj := { cls := .type "list", data := .seq vs.toArray }
    let H : Hp := fun b => if b = a then some (.frz o0 (.lst (ns.map V.int))) else none
    have at_a : H a = some (.frz o0 (.lst (ns.map V.int))) := if_pos rfl
    have off : ∀ b, b ≠ a → H b = none := fun b h => if_neg h
    refine core H (fun b => ?_) (.inl (.inr ⟨o0, at_a⟩)) (fun b u z => ?_) (fun b z => ?_)
      (fun _ => hk)
    · by_cases h : b = a
      · subst h
        exact .inr ⟨_, _, at_a⟩
      · exact .inl (off b h)
    · by_cases h : b = a
      · subst h
        rw [at_a] at z
        cases z
        exact ⟨ha, by rw [List.length_map]; exact hl, vs, _, rv, ha⟩
      · rw [off b h] at z
        cases z
    · by_cases h : b = a
      · exact h
      · exact absurd (off b h) z
end

theorem walk_ofG {l : PySem.W.OpenLaw} {n k : Nat} {q : Program} {loose : List Str}
    {XP : (Str → Option Value) → Heap → Prop} {YP : World → Heap → Prop} {d : DefRec}
    {K : Params → PySem.W.Frag} {CX : World → CXT} {sp : World → Sp} {x : Str}
    (hn : l.most = some n) (hn2 : n ≤ sizeLine) (hdf : d.params.defaults = [])
    (hr : Room k callerA) (hY : ∀ (w : World) (h : Heap), YP w h → (K w.params).In h)
    (F : ∀ (w : World) (mg : Str → Option Value) (fa : Addr) (h : Heap),
      (K w.params).In h → h.Ns mainGlobals mg → mg d.name = some (.ref fa) →
      ∃ fd : FuncData, (∀ (s : Shared) (u : Value), BindsTo s fd ⟨[u], []⟩ [(x, u)]) ∧
        ∀ base : Heap, (K w.params).In base → base.Ns mainGlobals mg →
          FnG l.prog w (K w.params) mg base (CX w) k fa fd [x] (sp w))
    (hsp : ∀ (w : World) (H : Hp) (a : Addr) (ns : List Int), ns.length ≤ n → Only H →
      SqL (K w.params) H a (ns.map V.int) →
      sp w [.ref a] H (fun v _ => v = .bl true) fun _ _ _ => False)
    (hCX : ∀ (w : World) (H : Hp) (s : Shared) (e : Value) (s' : Shared),
      CX w [] H s (fun _ _ _ => False) e s' → False) :
    PySem.W.WalkO q loose XP YP l.row.toRowW d [] (fun f vs => PySem.call f vs) := by
  refine Att.attach_call hn hdf ?_
  intro w s₀ s₁ mg mb fa o pm cd doc a vs ns G Y ho hd hcd hmg hobj hints hlen hg
  have KX := hY w _ Y
  obtain ⟨fd, hb, hF⟩ := F w mg fa _ KX G.T.g hmg
  exact law_callG KX G.T.g G.T.b G.T.builtins G.T.nolimit hg hobj hints
    (Nat.le_trans hlen hn2) hr hF hb (fun H hO hS => hsp w H a ns hlen hO hS)
    (fun H e s' => hCX w H s₁ e s')
end GX

set_option Elab.async false
set_option linter.all false
set_option maxRecDepth 100000
set_option maxHeartbeats 4000000
namespace GX
open PySem L2 PySem.Spec
section
variable {K : PySem.W.Frag} {σ : L2.St} {H : Hp} {Q : VK} {D : Ends} {ta tb tc te : TE}
  {t u : TS} {c d : TT} {i j : Int} {x y v : V} {g : TG} {n : Nat} {r r' : R2}

/-! ### readings, one step each -/
theorem r_seq (h : t { D with nx := u D } σ H) : tSeq t u D σ H := h
theorem r_asg (h : te σ H fun x H1 => g x σ H1 D.nx) : tAsg te g D σ H := h
theorem r_name {R : L2.St → Hp → Prop} (h : R (σ.set n (some v)) H) : gName n v σ H R := h
theorem r_var (h : σ[n]? = some (some v)) (q : Q v H) : tVar n σ H Q := ⟨v, h, q⟩
theorem r_c (q : Q v H) : tC v σ H Q := q
theorem r_op (h : ta σ H fun x H1 => tb σ H1 fun y H2 => r x y H2 Q) : tOp r ta tb σ H Q := h
theorem r_un {f : V → Hp → VK → Prop} (h : ta σ H fun x H1 => f x H1 Q) : tUn f ta σ H Q := h
theorem r_I0 {f : Int → Int → V} (q : Q (f i j) H) : rI0 f (.int i) (.int j) H Q :=
  ⟨i, j, rfl, rfl, q⟩
theorem r_I {C : Int → Int → Prop} {f : Int → Int → V} (h : C i j) (q : Q (f i j) H) :
    rI C f (.int i) (.int j) H Q := ⟨i, j, rfl, rfl, h, q⟩
theorem r_U {f : Int → V} (q : Q (f i) H) : rU f (.int i) H Q := ⟨i, rfl, q⟩
theorem r_eq (h : scal x y = true) (q : Q (.bl (decide (x = y))) H) : rEq x y H Q := ⟨h, q⟩
theorem r_ne (h : scal x y = true) (q : Q (.bl (!decide (x = y))) H) : rNe x y H Q := ⟨h, q⟩
theorem r_ixL {p : Addr} {xs : List V} (h : SqL K H p xs) (e : atI xs i = some v) (q : Q v H) :
    rIxL K (.ref p) (.int i) H Q := ⟨p, xs, i, v, rfl, rfl, h, e, q⟩
theorem r_ixT {p : Addr} {xs : List V} (h : SqT K H p xs) (e : atI xs i = some v) (q : Q v H) :
    rIxT K (.ref p) (.int i) H Q := ⟨p, xs, i, v, rfl, rfl, h, e, q⟩
theorem r_ifS (h : c σ H fun b H1 => if b = true then t D σ H1 else u D σ H1) :
    tIfS c t u D σ H := h
theorem r_if (h : c σ H fun b H1 => if b = true then ta σ H1 Q else tb σ H1 Q) :
    tIf c ta tb σ H Q := h
theorem r_test {R : Bool → Hp → Prop} (h : te σ H fun x H1 => ∃ k, x = .bl k ∧ R k H1) :
    tTest te σ H R := h
theorem r_B {R : Bool → Hp → Prop} (h : te σ H fun x H1 => ∃ k, x = .bl k ∧ R k H1) :
    tB te σ H R := h
theorem r_and {R : Bool → Hp → Prop}
    (h : c σ H fun b H1 => if b = true then d σ H1 R else R false H1) : tAnd c d σ H R := h
theorem r_or {R : Bool → Hp → Prop}
    (h : c σ H fun b H1 => if b = true then R true H1 else d σ H1 R) : tOr c d σ H R := h
theorem r_not {R : Bool → Hp → Prop} (h : c σ H fun b H1 => R (!b) H1) : tNot c σ H R := h
theorem r_bl {R : Bool → Prop} {b : Bool} (h : R b) : ∃ k, V.bl b = V.bl k ∧ R k := ⟨b, rfl, h⟩
theorem r_ret (h : te σ H D.rt) : tRet te D σ H := h
theorem r_drop (h : te σ H fun _ H1 => D.nx σ H1) : tDrop te D σ H := h
theorem r_nil {R : List V → Hp → Prop} (h : R [] H) : tNil σ H R := h
theorem r_cons {tr : TA} {R : List V → Hp → Prop}
    (h : ta σ H fun x H1 => tr σ H1 fun xs H2 => R (x :: xs) H2) : tCons ta tr σ H R := h
theorem r_CB {f : List V → Hp → VK → Prop} {a : TA} (h : a σ H fun vs H1 => f vs H1 Q) :
    tCB f a σ H Q := h
theorem r_call {sp : Sp} {dvs : List V} {E : XK} {a : TA}
    (h : a σ H fun vs H1 => sp (vs ++ dvs) H1 Q E) : tCall sp dvs E a σ H Q := h
theorem r_int {S : Int → Prop} {B : Prop} (q : S i) : (∃ k, [V.int i] = [V.int k] ∧ S k) ∨ B :=
  .inl ⟨i, rfl, q⟩
theorem r_tup {a : TA} (h : a σ H fun xs H1 => xs.length ≤ sizeLine ∧
    ∀ p, H1 p = none → Q (.ref p) (upd H1 p (.tup xs))) : tTup a σ H Q := h
theorem r_lst {a : TA} (h : a σ H fun xs H1 => xs.length ≤ sizeLine ∧
    ∀ p, H1 p = none → Q (.ref p) (upd H1 p (.lst xs))) : tLst a σ H Q := h
theorem r_andV (h : ta σ H fun x H1 => ∃ b, x = .bl b ∧
    if b = true then tb σ H1 Q else Q (.bl false) H1) : tAndV ta tb σ H Q := h
theorem r_chain (h : ta σ H fun x H1 => tb σ H1 fun y H2 => r x y H2 fun z H3 =>
    ∃ k, z = .bl k ∧ if k = true then tc σ H3 fun w H4 => r' y w H4 Q else Q (.bl false) H3) :
    tChain r r' ta tb tc σ H Q := h
theorem r_sub {to ti : TE} {s : TSet} {R : L2.St → Hp → Prop}
    (h : to σ H fun o H1 => ti σ H1 fun k H2 => s o k v H2 fun H3 => R σ H3) :
    gSub to ti s v σ H R := h
theorem r_setL {p : Addr} {xs : List V} {m : Nat} {R : Hp → Prop} (h : H p = some (.lst xs))
    (e : ixN xs.length i = some m) (q : R (upd H p (.lst (xs.set m v)))) :
    rSetL (.ref p) (.int i) v H R := ⟨p, xs, i, m, rfl, rfl, h, e, q⟩
theorem r_cut (M : L2.St → Hp → Prop) (h : t { D with nx := M } σ H)
    (k : ∀ σ' H', M σ' H' → u D σ' H') : Evl.tCut t u D σ H := ⟨M, h, k⟩
theorem r_next (h : D.nx σ H) : tNext D σ H := h
theorem ite_t {A B : Prop} {b : Bool} (hb : b = true) (h : A) : if b = true then A else B := by
  rw [if_pos hb]
  exact h
theorem ite_f {A B : Prop} {b : Bool} (hb : b = false) (h : B) : if b = true then A else B := by
  rw [hb]
  exact h
theorem ite_b {A B : Prop} {b : Bool} (h1 : b = true → A) (h2 : b = false → B) :
    if b = true then A else B := by
  cases b with
  | true => exact h1 rfl
  | false => exact h2 rfl
end

/-! ### loops -/
/-- the turns of a for -/
def ForGo (g : TG) (tb : TS) (D : Ends) (J : It) (σ : L2.St) (H : Hp) : Prop :=
  ∃ W : Nat → Nat → L2.St → Hp → Prop, (∃ m, W 0 m σ H) ∧ ∀ i m σ H, W i m σ H →
    (J.stop i H ∧ D.nx σ H) ∨ (J.go i H ∧ ∃ N : L2.St → Hp → Prop,
      (∀ σ' H', N σ' H' → ∃ m', m' < m ∧ W (i + 1) m' σ' H') ∧
      ∀ x H', J.yld i H x H' → g x σ H' fun σ2 H2 =>
        tb { D with nx := N, ct := N, bk := D.nx } σ2 H2)
/-- the turns of a comprehension -/
def LcGo (g : TG) (tt : TT) (te : TE) (vs : List Nat) (σ : L2.St) (Q : VK) (J : It) (H1 : Hp) :
    Prop := ∀ D, H1 D = none → ∃ W : Nat → Nat → Hp → Prop,
  (∃ m, W 0 m (upd H1 D (.lst []))) ∧ ∀ i m H, W i m H →
    (J.stop i H ∧ Q (.ref D) H) ∨ (J.go i H ∧ ∃ Nx : Hp → Prop,
      (∀ H', Nx H' → ∃ m', m' < m ∧ W (i + 1) m' H') ∧
      ∀ x H', J.yld i H x H' → g x (wipe σ vs) H' fun σ2 H2 => wipe σ2 vs = wipe σ vs ∧
        tt σ2 H2 fun b H3 => if b = true then te σ2 H3 fun y H4 =>
          ∃ acc, H4 D = some (.lst acc) ∧ acc.length < sizeLine ∧
            Nx (upd H4 D (.lst (acc ++ [y]))) else Nx H3)
section
variable {K : PySem.W.Frag} {σ : L2.St} {H : Hp} {Q : VK} {D : Ends} {ta tb tc te tl : TE}
  {t u : TS} {tt : TT} {g : TG} {wi : TI} {R : It → Hp → Prop} {a : Addr} {xs : List V}
  {vs : List Nat}
theorem r_for (h : wi σ H fun J H1 => ForGo g t D J σ H1) : tFor wi g t D σ H := h
theorem r_lc (h : wi σ H fun J H1 => LcGo g tt te vs σ Q J H1) : tLc wi g tt te vs σ H Q := h
theorem r_iList (h : tl σ H fun x H1 => ∃ a, x = .ref a ∧ (∃ xs, SqL K H1 a xs) ∧
    R (Itl K a) H1) : iList K tl σ H R := h
theorem r_itl {S : Addr → Prop} (h : SqL K H a xs) (q : S a) :
    ∃ b, V.ref a = .ref b ∧ (∃ xs, SqL K H b xs) ∧ S b := ⟨a, rfl, ⟨xs, h⟩, q⟩
theorem r_iTup (h : tl σ H fun x H1 => ∃ a, x = .ref a ∧ (∃ xs, SqT K H1 a xs) ∧
    R (Itt K a) H1) : iTup K tl σ H R := h
theorem r_itt {S : Addr → Prop} (h : SqT K H a xs) (q : S a) :
    ∃ b, V.ref a = .ref b ∧ (∃ xs, SqT K H b xs) ∧ S b := ⟨a, rfl, ⟨xs, h⟩, q⟩
theorem r_iStr (h : tl σ H fun x H1 => ∃ z, x = .str z ∧ R (Its z) H1) : iStr tl σ H R := h
theorem r_its {z : Str} {S : Str → Prop} (q : S z) : ∃ y, V.str z = .str y ∧ S y := ⟨z, rfl, q⟩
theorem r_rng1 {ar : TA} (h : ar σ H fun vs H1 => ∃ j : Int, vs = [.int j] ∧
    -(2 ^ 62) ≤ j ∧ j < 2 ^ 62 ∧ R (Itr 0 j.toNat) H1) : iRng1 ar σ H R := h
theorem r_rg1 {j : Int} {S : Int → Prop} (h : -(2 ^ 62) ≤ j ∧ j < 2 ^ 62) (q : S j) :
    ∃ k : Int, [V.int j] = [.int k] ∧ -(2 ^ 62) ≤ k ∧ k < 2 ^ 62 ∧ S k := ⟨j, rfl, h.1, h.2, q⟩
theorem r_zip {ar : TA} (h : ar σ H fun vs H1 => ∃ a b xs ys, vs = [.ref a, .ref b] ∧
    SqL K H1 a xs ∧ SqL K H1 b ys ∧ R (Itz K a b) H1) : iZip K ar σ H R := h
theorem r_itz {b : Addr} {ys : List V} {S : Addr → Addr → Prop} (h1 : SqL K H a xs)
    (h2 : SqL K H b ys) (q : S a b) : ∃ a' b' xs ys, [V.ref a, .ref b] = [.ref a', .ref b'] ∧
    SqL K H a' xs ∧ SqL K H b' ys ∧ S a' b' := ⟨a, b, xs, ys, rfl, h1, h2, q⟩
theorem r_enum {ar : TA} (h : ar σ H fun vs H1 => ∃ a xs, vs = [.ref a] ∧
    SqL K H1 a xs ∧ R (Ite K a) H1) : iEnum K ar σ H R := h
theorem r_ite {S : Addr → Prop} (h1 : SqL K H a xs) (q : S a) :
    ∃ a' xs, [V.ref a] = [.ref a'] ∧ SqL K H a' xs ∧ S a' := ⟨a, xs, rfl, h1, q⟩

/-- a for by what holds behind each turn -/
theorem for_go {J : It} {n : Nat} {G : Hp → Prop} {Y : Nat → Hp → V → Hp → Prop}
    (w : Walk J n G Y) (Pv : Nat → L2.St → Hp → Prop) (h0 : Pv 0 σ H)
    (hG : ∀ i σ H, i ≤ n → Pv i σ H → G H)
    (hs : ∀ i x σ H H', i < n → Pv i σ H → Y i H x H' → g x σ H' fun σ2 H2 =>
      t { D with nx := Pv (i + 1), ct := Pv (i + 1), bk := D.nx } σ2 H2)
    (hd : ∀ σ H, Pv n σ H → D.nx σ H) : ForGo g t D J σ H := for_it w Pv h0 hG hs hd
/-- the list at D, of at most n items, and what is told of it -/
def LcIn (D : Addr) (Pv : List V → Hp → Prop) (n : Nat) (H : Hp) : Prop :=
  ∃ acc, acc.length ≤ n ∧ H D = some (.lst acc) ∧ Pv acc H
theorem lc_put {D : Addr} {Pv : List V → Hp → Prop} {i : Nat} {acc : List V} {y : V}
    (h : H D = some (.lst acc)) (hl : acc.length ≤ i) (hi : i < 1000000)
    (p : Pv (acc ++ [y]) (upd H D (.lst (acc ++ [y])))) :
    ∃ acc, H D = some (.lst acc) ∧ acc.length < sizeLine ∧
      LcIn D Pv (i + 1) (upd H D (.lst (acc ++ [y]))) := by
  have big : (1000000 : Nat) < sizeLine := by decide
  refine ⟨acc, h, by omega, acc ++ [y], ?_, upd_same, p⟩
  rw [List.length_append]
  exact Nat.succ_le_succ hl
theorem lc_skip {D : Addr} {Pv : List V → Hp → Prop} {i : Nat} {acc : List V}
    (h : H D = some (.lst acc)) (hl : acc.length ≤ i) (p : Pv acc H) : LcIn D Pv (i + 1) H :=
  ⟨acc, Nat.le_succ_of_le hl, h, p⟩
/-- a comprehension, its list so far told -/
theorem lc_go {J : It} {n : Nat} {G : Hp → Prop} {Y : Nat → Hp → V → Hp → Prop}
    (w : Walk J n G Y) (Pv : Addr → Nat → List V → Hp → Prop)
    (h0 : ∀ D, H D = none → Pv D 0 [] (upd H D (.lst [])))
    (hG : ∀ D i acc H', i ≤ n → H D = none → Pv D i acc H' → G H')
    (hs : ∀ D i acc x H1 H2, i < n → H D = none → acc.length ≤ i → H1 D = some (.lst acc) →
      Pv D i acc H1 → Y i H1 x H2 → g x (wipe σ vs) H2 fun σ2 H3 => wipe σ2 vs = wipe σ vs ∧
        tt σ2 H3 fun b H4 => if b = true then te σ2 H4 fun y H5 =>
          ∃ acc, H5 D = some (.lst acc) ∧ acc.length < sizeLine ∧
            LcIn D (Pv D (i + 1)) (i + 1) (upd H5 D (.lst (acc ++ [y])))
          else LcIn D (Pv D (i + 1)) (i + 1) H4)
    (hd : ∀ D acc H', H D = none → acc.length ≤ n → Pv D n acc H' → H' D = some (.lst acc) →
      Q (.ref D) H') : LcGo g tt te vs σ Q J H := by
  intro D hD
  refine lc_it w (fun i H' => LcIn D (Pv D i) i H')
    ⟨[], Nat.le_refl _, upd_same, h0 D hD⟩ ?_ ?_ ?_
  · rintro i H' hi ⟨acc, _, _, p⟩
    exact hG D i acc H' hi hD p
  · rintro i x H1 H2 hi ⟨acc, hl, hA, p⟩ y
    exact hs D i acc x H1 H2 hi hD hl hA p y
  · rintro H' ⟨acc, hl, hA, p⟩
    exact hd D acc H' hD hl p hA
end
section
variable {σ : L2.St} {H : Hp} {Q : VK} {te : TE} {v : V}
theorem r_sl {f : V → Option Int → Option Int → Hp → VK → Prop} {tl th : TO}
    (h : te σ H fun x H1 => tl σ H1 fun l H2 => th σ H2 fun u H3 => f x l u H3 Q) :
    tSl f te tl th σ H Q := h
theorem r_part {R : Option Int → Hp → Prop}
    (h : te σ H fun x H1 => ∃ i, x = .int i ∧ R (some i) H1) : tPart te σ H R := h
theorem r_prt {R : Int → Prop} {i : Int} (h : R i) : ∃ k, V.int i = .int k ∧ R k := ⟨i, rfl, h⟩
theorem r_nopart {R : Option Int → Hp → Prop} (h : R none H) : tNoPart σ H R := h
theorem r_slL {K : PySem.W.Frag} {a : Addr} {xs : List V} {l u : Option Int} (h : SqL K H a xs)
    (q : ∀ p, H p = none → Q (.ref p) (upd H p (.lst (cutV xs l u)))) :
    rSlL K (.ref a) l u H Q := ⟨a, xs, rfl, h, q⟩
theorem r_slS {z : Str} {l u : Option Int} (h : z.length ≤ sizeLine) (q : Q (.str (cutS z l u)) H) :
    rSlS (.str z) l u H Q := ⟨z, rfl, h, q⟩
theorem r_M1 {f : V → List V → Hp → VK → Prop} {to : TE}
    (h : to σ H fun x H1 => (∃ a, x = .str a) ∧ te σ H1 fun y H2 => f x [y] H2 Q) :
    tM1 f to te σ H Q := h
theorem r_M0 {f : V → List V → Hp → VK → Prop} {to : TE}
    (h : to σ H fun x H1 => (∃ a, x = .str a) ∧ f x [] H1 Q) : tM0 f to σ H Q := h
theorem r_isS {S : Prop} {z : Str} (h : S) : (∃ a, V.str z = .str a) ∧ S := ⟨⟨z, rfl⟩, h⟩
theorem r_BM {K : PySem.W.Frag} {T : String} {f : V → List V → Hp → VK → Prop} {to : TE} {t : TA}
    (h : to σ H fun x H1 => tyV K T x H1 ∧ t σ H1 fun xs H2 => f x xs H2 Q) :
    tBM K T f to t σ H Q := h
theorem r_BM0 {K : PySem.W.Frag} {T : String} {f : V → List V → Hp → VK → Prop} {to : TE}
    (h : to σ H fun x H1 => tyV K T x H1 ∧ f x [] H1 Q) : tBM0 K T f to σ H Q := h
theorem r_tyL {K : PySem.W.Frag} {S : Prop} {p : Addr} {xs : List V} (h : SqL K H p xs) (q : S) :
    tyV K "list" (.ref p) H ∧ S := ⟨.inl ⟨rfl, xs, h⟩, q⟩
theorem r_app {p : Addr} {xs : List V} {y : V} (h : H p = some (.lst xs)) (hz : xs.length ≤ 1000000)
    (q : Q .non (upd H p (.lst (xs ++ [y])))) : rAppend (.ref p) [y] H Q :=
  ⟨p, xs, y, rfl, rfl, h, Nat.lt_of_le_of_lt hz (by decide), q⟩
theorem r_addS {S : Str → Str → Prop} {x y : Str} (h : x.length + y.length ≤ 1000000) (q : S x y) :
    ∃ i j, V.str x = .str i ∧ V.str y = .str j ∧ i.length + j.length ≤ sizeLine ∧ S i j :=
  ⟨x, y, rfl, rfl, Nat.le_trans h (by decide), q⟩
theorem r_lenS {S : Str → Prop} {z : Str} (h : z.length ≤ 1000000) (q : S z) :
    ∃ y, [V.str z] = [.str y] ∧ y.length ≤ sizeLine ∧ S y := ⟨z, rfl, Nat.le_trans h (by decide), q⟩
theorem r_yes {R : Bool → Hp → Prop} (h : R true H) : tYes σ H R := h
end

section
variable {K : PySem.W.Frag} {σ : L2.St} {H : Hp} {Q : VK} {D : Ends} {te : TE}
  {t : TS} {tt : TT} {g : TG} {a b : Addr} {vs : List Nat}
theorem for_L (xs : List V) (Pv : Nat → L2.St → Hp → Prop) (h0 : Pv 0 σ H)
    (hG : ∀ i σ H, i ≤ xs.length → Pv i σ H → SqL K H a xs)
    (hs : ∀ i x σ H, xs[i]? = some x → Pv i σ H → g x σ H fun σ2 H2 =>
      t { D with nx := Pv (i + 1), ct := Pv (i + 1), bk := D.nx } σ2 H2)
    (hd : ∀ σ H, Pv xs.length σ H → D.nx σ H) : ForGo g t D (Itl K a) σ H :=
  for_go (walk_list (xs := xs)) Pv h0 hG (fun i x σ H H' hi p y => by obtain ⟨rfl, e⟩ := y; exact hs i x σ H' e p) hd
theorem for_T (xs : List V) (Pv : Nat → L2.St → Hp → Prop) (h0 : Pv 0 σ H)
    (hG : ∀ i σ H, i ≤ xs.length → Pv i σ H → SqT K H a xs)
    (hs : ∀ i x σ H, xs[i]? = some x → Pv i σ H → g x σ H fun σ2 H2 =>
      t { D with nx := Pv (i + 1), ct := Pv (i + 1), bk := D.nx } σ2 H2)
    (hd : ∀ σ H, Pv xs.length σ H → D.nx σ H) : ForGo g t D (Itt K a) σ H :=
  for_go (walk_tup (xs := xs)) Pv h0 hG (fun i x σ H H' hi p y => by obtain ⟨rfl, e⟩ := y; exact hs i x σ H' e p) hd
theorem for_R (lo : Int) (n : Nat) (Pv : Nat → L2.St → Hp → Prop) (h0 : Pv 0 σ H)
    
    (hs : ∀ i σ H, i < n → Pv i σ H → g (V.int (lo + (i : Nat))) σ H fun σ2 H2 =>
      t { D with nx := Pv (i + 1), ct := Pv (i + 1), bk := D.nx } σ2 H2)
    (hd : ∀ σ H, Pv n σ H → D.nx σ H) : ForGo g t D (Itr lo n) σ H :=
  for_go (walk_range (lo := lo) (n := n)) Pv h0 (fun _ _ _ _ _ => trivial) (fun i x σ H H' hi p y => by obtain ⟨rfl, rfl⟩ := y; exact hs i σ H' hi p) hd
theorem for_S (z : Str) (Pv : Nat → L2.St → Hp → Prop) (h0 : Pv 0 σ H)
    
    (hs : ∀ i c σ H, z.cps[i]? = some c → Pv i σ H → g (V.str ⟨#[c]⟩) σ H fun σ2 H2 =>
      t { D with nx := Pv (i + 1), ct := Pv (i + 1), bk := D.nx } σ2 H2)
    (hd : ∀ σ H, Pv z.cps.size σ H → D.nx σ H) : ForGo g t D (Its z) σ H :=
  for_go (walk_str (z := z)) Pv h0 (fun _ _ _ _ _ => trivial) (fun i x σ H H' hi p y => by obtain ⟨rfl, c, e, rfl⟩ := y; exact hs i c σ H' e p) hd
theorem for_E (xs : List V) (Pv : Nat → L2.St → Hp → Prop) (h0 : Pv 0 σ H)
    (hG : ∀ i σ H, i ≤ xs.length → Pv i σ H → SqL K H a xs)
    (hs : ∀ i x σ H q, xs[i]? = some x → Pv i σ H → H q = none → g (V.ref q) σ (upd H q (.tup [.int (i : Nat), x])) fun σ2 H2 =>
      t { D with nx := Pv (i + 1), ct := Pv (i + 1), bk := D.nx } σ2 H2)
    (hd : ∀ σ H, Pv xs.length σ H → D.nx σ H) : ForGo g t D (Ite K a) σ H :=
  for_go (walk_enum (xs := xs)) Pv h0 hG (fun i x σ H H' hi p y => by obtain ⟨q, u, v, rfl, hq, rfl, h1, h2⟩ := y; cases h1; exact hs i v σ H q h2 p hq) hd
theorem for_Z (xs ys : List V) (n : Nat) (hn : n = min xs.length ys.length) (Pv : Nat → L2.St → Hp → Prop) (h0 : Pv 0 σ H)
    (hG : ∀ i σ H, i ≤ n → Pv i σ H → SqL K H a xs ∧ SqL K H b ys)
    (hs : ∀ i x y σ H q, xs[i]? = some x → ys[i]? = some y → Pv i σ H → H q = none → g (V.ref q) σ (upd H q (.tup [x, y])) fun σ2 H2 =>
      t { D with nx := Pv (i + 1), ct := Pv (i + 1), bk := D.nx } σ2 H2)
    (hd : ∀ σ H, Pv n σ H → D.nx σ H) : ForGo g t D (Itz K a b) σ H :=
  for_go (walk_zip (xs := xs) (ys := ys) hn) Pv h0 hG (fun i x σ H H' hi p y => by obtain ⟨q, u, v, rfl, hq, rfl, h1, h2⟩ := y; exact hs i u v σ H q h1 h2 p hq) hd
theorem lc_L (xs : List V) (Pv : Addr → Nat → List V → Hp → Prop)
    (h0 : ∀ D, H D = none → Pv D 0 [] (upd H D (.lst [])))
    (hG : ∀ D i acc H', i ≤ xs.length → H D = none → Pv D i acc H' → SqL K H' a xs)
    (hs : ∀ D i acc x H', xs[i]? = some x → H D = none → acc.length ≤ i → H' D = some (.lst acc) → Pv D i acc H' → g x (wipe σ vs) H' fun σ2 H3 => wipe σ2 vs = wipe σ vs ∧
      tt σ2 H3 fun b H4 => if b = true then te σ2 H4 fun y H5 =>
        ∃ acc, H5 D = some (.lst acc) ∧ acc.length < sizeLine ∧
          LcIn D (Pv D (i + 1)) (i + 1) (upd H5 D (.lst (acc ++ [y])))
        else LcIn D (Pv D (i + 1)) (i + 1) H4)
    (hd : ∀ D acc H', H D = none → acc.length ≤ xs.length → Pv D xs.length acc H' →
      H' D = some (.lst acc) → Q (.ref D) H') : LcGo g tt te vs σ Q (Itl K a) H :=
  lc_go (walk_list (xs := xs)) Pv h0 hG (fun D i acc x H1 H2 hi hD hl hA p y => by obtain ⟨rfl, e⟩ := y; exact hs D i acc x _ e hD hl hA p) hd
theorem lc_T (xs : List V) (Pv : Addr → Nat → List V → Hp → Prop)
    (h0 : ∀ D, H D = none → Pv D 0 [] (upd H D (.lst [])))
    (hG : ∀ D i acc H', i ≤ xs.length → H D = none → Pv D i acc H' → SqT K H' a xs)
    (hs : ∀ D i acc x H', xs[i]? = some x → H D = none → acc.length ≤ i → H' D = some (.lst acc) → Pv D i acc H' → g x (wipe σ vs) H' fun σ2 H3 => wipe σ2 vs = wipe σ vs ∧
      tt σ2 H3 fun b H4 => if b = true then te σ2 H4 fun y H5 =>
        ∃ acc, H5 D = some (.lst acc) ∧ acc.length < sizeLine ∧
          LcIn D (Pv D (i + 1)) (i + 1) (upd H5 D (.lst (acc ++ [y])))
        else LcIn D (Pv D (i + 1)) (i + 1) H4)
    (hd : ∀ D acc H', H D = none → acc.length ≤ xs.length → Pv D xs.length acc H' →
      H' D = some (.lst acc) → Q (.ref D) H') : LcGo g tt te vs σ Q (Itt K a) H :=
  lc_go (walk_tup (xs := xs)) Pv h0 hG (fun D i acc x H1 H2 hi hD hl hA p y => by obtain ⟨rfl, e⟩ := y; exact hs D i acc x _ e hD hl hA p) hd
theorem lc_R (lo : Int) (n : Nat) (Pv : Addr → Nat → List V → Hp → Prop)
    (h0 : ∀ D, H D = none → Pv D 0 [] (upd H D (.lst [])))
    
    (hs : ∀ D i acc H', i < n → H D = none → acc.length ≤ i → H' D = some (.lst acc) → Pv D i acc H' → g (V.int (lo + (i : Nat))) (wipe σ vs) H' fun σ2 H3 => wipe σ2 vs = wipe σ vs ∧
      tt σ2 H3 fun b H4 => if b = true then te σ2 H4 fun y H5 =>
        ∃ acc, H5 D = some (.lst acc) ∧ acc.length < sizeLine ∧
          LcIn D (Pv D (i + 1)) (i + 1) (upd H5 D (.lst (acc ++ [y])))
        else LcIn D (Pv D (i + 1)) (i + 1) H4)
    (hd : ∀ D acc H', H D = none → acc.length ≤ n → Pv D n acc H' →
      H' D = some (.lst acc) → Q (.ref D) H') : LcGo g tt te vs σ Q (Itr lo n) H :=
  lc_go (walk_range (lo := lo) (n := n)) Pv h0 (fun _ _ _ _ _ _ _ => trivial) (fun D i acc x H1 H2 hi hD hl hA p y => by obtain ⟨rfl, rfl⟩ := y; exact hs D i acc _ hi hD hl hA p) hd
theorem lc_S (z : Str) (Pv : Addr → Nat → List V → Hp → Prop)
    (h0 : ∀ D, H D = none → Pv D 0 [] (upd H D (.lst [])))
    
    (hs : ∀ D i acc c H', z.cps[i]? = some c → H D = none → acc.length ≤ i → H' D = some (.lst acc) → Pv D i acc H' → g (V.str ⟨#[c]⟩) (wipe σ vs) H' fun σ2 H3 => wipe σ2 vs = wipe σ vs ∧
      tt σ2 H3 fun b H4 => if b = true then te σ2 H4 fun y H5 =>
        ∃ acc, H5 D = some (.lst acc) ∧ acc.length < sizeLine ∧
          LcIn D (Pv D (i + 1)) (i + 1) (upd H5 D (.lst (acc ++ [y])))
        else LcIn D (Pv D (i + 1)) (i + 1) H4)
    (hd : ∀ D acc H', H D = none → acc.length ≤ z.cps.size → Pv D z.cps.size acc H' →
      H' D = some (.lst acc) → Q (.ref D) H') : LcGo g tt te vs σ Q (Its z) H :=
  lc_go (walk_str (z := z)) Pv h0 (fun _ _ _ _ _ _ _ => trivial) (fun D i acc x H1 H2 hi hD hl hA p y => by obtain ⟨rfl, c, e, rfl⟩ := y; exact hs D i acc c _ e hD hl hA p) hd
theorem lc_E (xs : List V) (Pv : Addr → Nat → List V → Hp → Prop)
    (h0 : ∀ D, H D = none → Pv D 0 [] (upd H D (.lst [])))
    (hG : ∀ D i acc H', i ≤ xs.length → H D = none → Pv D i acc H' → SqL K H' a xs)
    (hs : ∀ D i acc x H' q, xs[i]? = some x → H D = none → acc.length ≤ i → H' D = some (.lst acc) → Pv D i acc H' → H' q = none → g (V.ref q) (wipe σ vs) (upd H' q (.tup [.int (i : Nat), x])) fun σ2 H3 => wipe σ2 vs = wipe σ vs ∧
      tt σ2 H3 fun b H4 => if b = true then te σ2 H4 fun y H5 =>
        ∃ acc, H5 D = some (.lst acc) ∧ acc.length < sizeLine ∧
          LcIn D (Pv D (i + 1)) (i + 1) (upd H5 D (.lst (acc ++ [y])))
        else LcIn D (Pv D (i + 1)) (i + 1) H4)
    (hd : ∀ D acc H', H D = none → acc.length ≤ xs.length → Pv D xs.length acc H' →
      H' D = some (.lst acc) → Q (.ref D) H') : LcGo g tt te vs σ Q (Ite K a) H :=
  lc_go (walk_enum (xs := xs)) Pv h0 hG (fun D i acc x H1 H2 hi hD hl hA p y => by obtain ⟨q, u, v, rfl, hq, rfl, h1, h2⟩ := y; cases h1; exact hs D i acc v _ q h2 hD hl hA p hq) hd
theorem lc_Z (xs ys : List V) (n : Nat) (hn : n = min xs.length ys.length) (Pv : Addr → Nat → List V → Hp → Prop)
    (h0 : ∀ D, H D = none → Pv D 0 [] (upd H D (.lst [])))
    (hG : ∀ D i acc H', i ≤ n → H D = none → Pv D i acc H' → SqL K H' a xs ∧ SqL K H' b ys)
    (hs : ∀ D i acc x y H' q, xs[i]? = some x → ys[i]? = some y → H D = none → acc.length ≤ i → H' D = some (.lst acc) → Pv D i acc H' → H' q = none → g (V.ref q) (wipe σ vs) (upd H' q (.tup [x, y])) fun σ2 H3 => wipe σ2 vs = wipe σ vs ∧
      tt σ2 H3 fun b H4 => if b = true then te σ2 H4 fun y H5 =>
        ∃ acc, H5 D = some (.lst acc) ∧ acc.length < sizeLine ∧
          LcIn D (Pv D (i + 1)) (i + 1) (upd H5 D (.lst (acc ++ [y])))
        else LcIn D (Pv D (i + 1)) (i + 1) H4)
    (hd : ∀ D acc H', H D = none → acc.length ≤ n → Pv D n acc H' →
      H' D = some (.lst acc) → Q (.ref D) H') : LcGo g tt te vs σ Q (Itz K a b) H :=
  lc_go (walk_zip (xs := xs) (ys := ys) hn) Pv h0 hG (fun D i acc x H1 H2 hi hD hl hA p y => by obtain ⟨q, u, v, rfl, hq, rfl, h1, h2⟩ := y; exact hs D i acc u v _ q h1 h2 hD hl hA p hq) hd
end

/-! ### frames -/
/-- all but what stands at a is as it was -/
def But (a : Addr) (H H' : Hp) : Prop := ∀ b, b ≠ a → H' b = H b
theorem But.refl (a : Addr) (H : Hp) : But a H H := fun _ _ => rfl
theorem But.trans {a : Addr} {H H1 H2 : Hp} (p : But a H H1) (q : But a H1 H2) : But a H H2 :=
  fun b h => (q b h).trans (p b h)
theorem But.upd {a : Addr} {H H' : Hp} {o : HO} (p : But a H H') : But a H (upd H' a o) :=
  fun b h => (upd_ne h).trans (p b h)
/-- what stood stands, but what stands at a -/
def Kp (a : Addr) (H H' : Hp) : Prop := ∀ b o, H b = some o → b ≠ a → H' b = some o
theorem Kp.refl (a : Addr) (H : Hp) : Kp a H H := fun _ _ e _ => e
theorem Kp.trans {a : Addr} {H H1 H2 : Hp} (p : Kp a H H1) (q : Kp a H1 H2) : Kp a H H2 :=
  fun b o e h => q b o (p b o e h) h
theorem But.kp {a : Addr} {H H' : Hp} (p : But a H H') : Kp a H H' :=
  fun b o e h => (p b h).trans e
theorem Kp.new {a p : Addr} {H H' : Hp} {o : HO} (q : Kp a H H') (h : H' p = none) :
    Kp a H (upd H' p o) := fun b u e ne => by
  have z := q b u e ne
  rw [upd_ne (ne_of_none z h)]
  exact z
theorem Same.kp {a : Addr} {H H' : Hp} (s : Same H H') : Kp a H H' := fun b o e _ => s b o e
theorem Kp.free {a p : Addr} {H H' : Hp} (q : Kp a H H') (h : H' p = none) (ne : p ≠ a) :
    H p = none := by
  cases e : H p with
  | none => rfl
  | some o =>
    rw [q p o e ne] at h
    cases h
theorem Kp.seq {K : PySem.W.Frag} {a b : Addr} {H H' : Hp} {xs : List V} (q : Kp a H H')
    (ne : b ≠ a) (h : SqL K H b xs) : SqL K H' b xs := by
  rcases h with (h | ⟨o, h⟩) | h
  · exact .inl (.inl (q _ _ h ne))
  · exact .inl (.inr ⟨o, q _ _ h ne⟩)
  · exact .inr h
theorem Kp.seqT {K : PySem.W.Frag} {a b : Addr} {H H' : Hp} {xs : List V} (q : Kp a H H')
    (ne : b ≠ a) (h : SqT K H b xs) : SqT K H' b xs := by
  rcases h with (h | ⟨o, h⟩) | h
  · exact .inl (.inl (q _ _ h ne))
  · exact .inl (.inr ⟨o, q _ _ h ne⟩)
  · exact .inr h
theorem Same.new {H : Hp} {p : Addr} {o : HO} (h : H p = none) : Same H (upd H p o) :=
  fun b u e => by
  rw [upd_ne (ne_of_none e h)]
  exact e
theorem same_set {H H' : Hp} {p : Addr} {o : HO} (q : Same H H') (h : H p = none) :
    Same H (upd H' p o) := fun b u e => by
  rw [upd_ne (ne_of_none e h)]
  exact q b u e
theorem Same.seqT {K : PySem.W.Frag} {a : Addr} {H H' : Hp} {xs : List V} (q : Same H H')
    (h : SqT K H a xs) : SqT K H' a xs := by
  rcases h with (h | ⟨o, h⟩) | h
  · exact .inl (.inl (q _ _ h))
  · exact .inl (.inr ⟨o, q _ _ h⟩)
  · exact .inr h

section
variable {K : PySem.W.Frag} {H : Hp} {a p : Addr} {o u : HO} {xs : List V}
theorem sq_upd (np : H p = none) (h : SqL K H a xs) : SqL K (upd H p o) a xs :=
  Same.seq (Same.new np) h
theorem sqT_upd (np : H p = none) (h : SqT K H a xs) : SqT K (upd H p o) a xs :=
  Same.seqT (Same.new np) h
theorem at_upd (np : H p = none) (h : H a = some u) : upd H p o a = some u :=
  Same.new np a u h
theorem at_ne (ne : a ≠ p) (h : H a = some u) : upd H p o a = some u := (upd_ne ne).trans h
theorem at_ne0 (ne : a ≠ p) (h : H a = none) : upd H p o a = none := (upd_ne ne).trans h
theorem r_list_of {S : List V → Prop} (h : SqL K H a xs) (q : S xs) :
    ∃ p ys, [V.ref a] = [V.ref p] ∧ (SqL K H p ys ∨ SqT K H p ys) ∧ S ys :=
  ⟨a, xs, rfl, .inl h, q⟩
theorem r_list_ofT {S : List V → Prop} (h : SqT K H a xs) (q : S xs) :
    ∃ p ys, [V.ref a] = [V.ref p] ∧ (SqL K H p ys ∨ SqT K H p ys) ∧ S ys :=
  ⟨a, xs, rfl, .inr h, q⟩
theorem r_size {R : Prop} (h : xs.length ≤ 100000) (q : R) : xs.length ≤ sizeLine ∧ R :=
  ⟨Nat.le_trans h (by decide), q⟩
end

/-! ### the law's source of drawn numbers -/
/-- the source at a: the script's copy at la, the place, what is left of a great cell, a state, a count -/
structure Src (H : Hp) (a la : Addr) : Prop where
  ne : la ≠ a
  ex : ∃ (ns : List Int) (pos : Nat) (rest st n : Int),
    H a = some (.lst [.ref la, .int pos, .int rest, .int st, .int n]) ∧
    H la = some (.lst (ns.map V.int)) ∧ pos ≤ ns.length ∧ 0 ≤ rest ∧ 0 ≤ st ∧ st < 2147483629
section
variable {H H' : Hp} {a la D : Addr} {o : HO}
theorem Src.apart (h : Src H a la) (n : H D = none) : D ≠ a ∧ D ≠ la := by
  obtain ⟨ne, ns, pos, rest, st, k, h1, h2, _⟩ := h
  exact ⟨(ne_of_none h1 n).symm, (ne_of_none h2 n).symm⟩
theorem Src.upd (h : Src H a la) (n : D ≠ a ∧ D ≠ la) : Src (upd H D o) a la := by
  obtain ⟨ne, ns, pos, rest, st, k, h1, h2, r⟩ := h
  exact ⟨ne, ns, pos, rest, st, k, at_ne n.1.symm h1, at_ne n.2.symm h2, r⟩
theorem Src.new (h : Src H a la) (n : H D = none) : Src (L2.upd H D o) a la := h.upd (h.apart n)
theorem Src.ext (h : Src H a la) (e : Same H H') : Src H' a la := by
  obtain ⟨ne, ns, pos, rest, st, k, h1, h2, r⟩ := h
  exact ⟨ne, ns, pos, rest, st, k, e _ _ h1, e _ _ h2, r⟩
theorem Src.at (h : Src H a la) : ∃ o, H a = some o := by
  obtain ⟨ne, ns, pos, rest, st, k, h1, h2, r⟩ := h
  exact ⟨_, h1⟩
theorem Kp.set (q : Kp a H H') (n : H D = none) : Kp a H (L2.upd H' D o) := fun b u e ne => by
  rw [upd_ne (ne_of_none e n)]
  exact q b u e ne
theorem Kp.same (q : Kp a H H') {H2 : Hp} (e : Same H' H2) : Kp a H H2 :=
  fun b u z ne => e b u (q b u z ne)
end
end GX

set_option Elab.async false
set_option linter.all false
set_option maxRecDepth 100000
set_option maxHeartbeats 4000000
namespace GX
open PySem L2 PySem.Spec PyProof.Rows
section
variable {X : Cx} {CX : CXT} {k : Nat} {f C : Addr} {fd : FuncData} {ps : List Str} {sp : Sp}
  {dvs : List V} {ds : List Value} {E : XK} {x m : Str} {p pos apos : Pos} {e o : Expr}
  {es : List Expr} {ta : TE} {t : TA}
/-- o.m(e, ..) -/
theorem pe_methG {pl : Sem Bool} (he : PE X o ta) (c : Cls X.K C) (hm : Meth X.K C m f)
    (F : FnG X.prog X.w X.K X.mg X.base CX k f fd ps sp) (hG : X.A.guards = some [])
    (hr : Room k X.A) (hb : Binds X.K fd ps ds) (hd : Vals dvs ds) (hx : Passes CX X E)
    (ha : PA X (e :: es) t)
    (hst : starEach (e :: es) X.env = (false, eval e X.env) :: starEach es X.env := by rfl)
    (hpl : (backTo pos (starEach es X.env)).any (·.1) = false := by rfl)
    (ht : eval (.Call (.Attribute o m apos) (e :: es) [] pos) X.env = (do
      let ov ← eval o X.env
      standAt apos.atName
      let (g, fst) ← holding [ov] (getMethod ov m pl)
      callWith pos g fst (backTo pos (starEach (e :: es) X.env))
        (backToKw pos (keywordEach [] X.env))) := by rfl) :
    PE X (.Call (.Attribute o m apos) (e :: es) [] pos) (tMeth C m sp dvs E ta t) := by
  constructor
  intro pins s σ H Q I h
  refine PySem.W.methodCall_KW (pl := pl) (thn (he.run pins s σ H _ I h) ?_) ht
  rintro u s1 ⟨y, H1, I1, ry, a, dx, fs, rfl, ea, l, q⟩
  obtain rfl : u = Value.ref a := ry
  refine getmeth_ok I1 ea c hm l ?_
  refine PySem.W.callWith_K (first := [.ref a]) (h₀ := X.base) I.ok.mod.kin hm.kp ?_ hst hpl
  refine thn (ha.run pos pins s1 σ H1 _ I1 q) ?_
  rintro us s2 ⟨vs, H2, I2, r, q2⟩
  exact ⟨I2.kIn, run_fnG (us := .ref a :: us) (vs := .ref a :: vs) F hG hr hb hd hx I2
    (.cons rfl r) q2⟩
/-- o.m() -/
theorem pe_meth0G {pl : Sem Bool} (he : PE X o ta) (c : Cls X.K C) (hm : Meth X.K C m f)
    (F : FnG X.prog X.w X.K X.mg X.base CX k f fd ps sp) (hG : X.A.guards = some [])
    (hr : Room k X.A) (hb : Binds X.K fd ps ds) (hd : Vals dvs ds) (hx : Passes CX X E)
    (ht : eval (.Call (.Attribute o m apos) [] [] pos) X.env = (do
      let ov ← eval o X.env
      standAt apos.atName
      let (g, fst) ← holding [ov] (getMethod ov m pl)
      callWith pos g fst (backTo pos (starEach [] X.env))
        (backToKw pos (keywordEach [] X.env))) := by rfl) :
    PE X (.Call (.Attribute o m apos) [] [] pos) (tMeth C m sp dvs E ta tNil) := by
  constructor
  intro pins s σ H Q I h
  refine PySem.W.methodCall_KW (pl := pl) (thn (he.run pins s σ H _ I h) ?_) ht
  rintro u s1 ⟨y, H1, I1, ry, a, dx, fs, rfl, ea, l, q⟩
  obtain rfl : u = Value.ref a := ry
  refine getmeth_ok I1 ea c hm l ?_
  exact PySem.W.callWith_K0 (first := [.ref a]) I1.kIn hm.kp
    (run_fnG (us := [.ref a]) (vs := [.ref a]) F hG hr hb hd hx I1 (.cons rfl .nil) q)

theorem guards_make {A : Around} {C : Addr} {us : List Value} {kw : List (Str × Value)}
    (h : A.guards = some []) :
    (A.under (.builtin "type.__call__" ⟨.ref C :: us, kw⟩)).guards = some [] := by
  first
    | exact h
    | simpa [Around.under, Code.guards, Code.isGuard, pushGuards, guardIds] using h

theorem run_makeG {pins : List (Addr × Obj)} {σ : L2.St} {H : Hp} {s : Shared} {Q : VK}
    {us : List Value} {vs : List V} (M : Mk X.K C f)
    (F : FnG X.prog X.w X.K X.mg X.base CX k f fd ps sp) (hG : X.A.guards = some [])
    (hr : Room (k + 1) X.A) (hb : Binds X.K fd ps ds) (hd : Vals dvs ds)
    (hx : Passes CX X E) (I : Inv X pins σ H s) (r : Vals vs us)
    (h : ∀ x dx, H x = none → H dx = none → dx ≠ x → sp (.ref x :: (vs ++ dvs))
      (upd (upd H dx (.own x)) x (.ins C dx [])) (fun v H2 => v = .non ∧ Q (.ref x) H2) E) :
    wpAny (model X.prog X.w) X.A (call (.ref C) us) (EP X pins σ Q) X.xe s := by
  let d0 := s.heap.objs.size
  have hq := h (d0 + 1) d0 (I.hok.fresh (Nat.le_succ _)) (I.hok.fresh (Nat.le_refl _))
    (Nat.ne_of_lt (Nat.lt_succ_self _))
  have I2 := Inv.made (C := C) I
  have r2 : Vals (V.ref (d0 + 1) :: (vs ++ dvs)) (Value.ref (d0 + 1) :: (us ++ ds)) :=
    .cons rfl (r.append hd)
  have hl : (Value.ref (d0 + 1) :: us ++ ds).length = ps.length := by
    rw [← F.len _ _ _ _ hq]
    exact r2.length.symm
  have z := F.run _ X.stack _ _ ⟨Value.ref (d0 + 1) :: us, []⟩ (Value.ref (d0 + 1) :: (us ++ ds))
    _ _ E (guards_make hG) (hr.make C us []) (I2.env0.make C us [])
    (hb _ (Value.ref (d0 + 1) :: us) I2.kIn hl) r2 hq
  refine wpAny_call (make_map (f := f) I.kIn M.makes M.init (beq_iff_eq.mp M.fn)
    (codeAny_mono z ?_))
  intro r s' hq'
  match r, hq' with
  | .error e, hq' => exact hx pins σ _ _ e s' I2 hq'
  | .ok (.ret u), hq' =>
    obtain ⟨v, H', I3, rv, ev, q3⟩ := I2.after hq'
    subst ev
    exact ⟨rv, ⟨V.ref (d0 + 1), H', I3, rfl, q3⟩⟩

theorem pe_makeG (M : Mk X.K C f) (F : FnG X.prog X.w X.K X.mg X.base CX k f fd ps sp)
    (hG : X.A.guards = some []) (hr : Room (k + 1) X.A) (hg : Gl X x)
    (hm : X.mg x = some (.ref C)) (hb : Binds X.K fd ps ds) (hd : Vals dvs ds)
    (hx : Passes CX X E) (ha : PA X (e :: es) t)
    (hdb : (x == ("__debug__" : Str)) = false := by decide)
    (he : starEach (e :: es) X.env = (false, eval e X.env) :: starEach es X.env := by rfl)
    (hpl : (backTo pos (starEach es X.env)).any (·.1) = false := by rfl) :
    PE X (.Call (.Name x p) (e :: es) [] pos) (tMake C sp dvs E t) := by
  constructor
  intro pins s σ H Q I h
  refine wpAny_Call_Name_kw (ld_glob I hg hm ?_ hdb)
  refine PySem.W.callWith_K (h₀ := X.base) I.ok.mod.kin M.kp ?_ he hpl
  refine thn (ha.run pos pins s σ H _ I h) ?_
  rintro us s1 ⟨vs, H1, I1, r, q⟩
  exact ⟨I1.kIn, run_makeG M F hG hr hb hd hx I1 r q⟩
end

/-! ### readings: fields, methods, dicts -/
section
variable {K : PySem.W.Frag} {σ : L2.St} {H : Hp} {Q : VK} {D : Ends} {ta tb tv te : TE}
  {a C dx : Addr} {fs : List (Str × V)} {f m : Str} {v x y : V} {sp : Sp} {dvs : List V}
  {E : XK} {t : TA}
theorem r_fld (h : ta σ H fun x H1 => ∃ a C dx fs v, x = .ref a ∧ H1 a = some (.ins C dx fs) ∧
    Cls K C ∧ NoAttr K C f ∧ fs.lookup f = some v ∧ Q v H1) : tFld K ta f σ H Q := h
theorem r_fldA {S : V → Prop} (ho : H a = some (.ins C dx fs)) (hc : Cls K C)
    (hn : NoAttr K C f) (hl : fs.lookup f = some v) (q : S v) :
    ∃ b C dx fs v, V.ref a = .ref b ∧ H b = some (.ins C dx fs) ∧ Cls K C ∧ NoAttr K C f ∧
      fs.lookup f = some v ∧ S v := ⟨a, C, dx, fs, v, rfl, ho, hc, hn, hl, q⟩
theorem r_sfld (h : tv σ H fun y H1 => ta σ H1 fun x H2 => ∃ a C dx fs, x = .ref a ∧
    H2 a = some (.ins C dx fs) ∧ Cls K C ∧ NoAttr K C f ∧ fs.length < 1000 ∧
    D.nx σ (upd H2 a (.ins C dx (putF f y fs)))) : sFld K ta tv f D σ H := h
theorem r_meth (h : ta σ H fun x H1 => ∃ a dx fs, x = .ref a ∧ H1 a = some (.ins C dx fs) ∧
    fs.lookup m = none ∧ t σ H1 fun vs H2 => sp (x :: (vs ++ dvs)) H2 Q E) :
    tMeth C m sp dvs E ta t σ H Q := h
theorem r_methA {S : Prop} (ho : H a = some (.ins C dx fs)) (hl : fs.lookup m = none) (q : S) :
    ∃ b dx fs, V.ref a = .ref b ∧ H b = some (.ins C dx fs) ∧ fs.lookup m = none ∧ S :=
  ⟨a, dx, fs, rfl, ho, hl, q⟩
theorem r_make (h : t σ H fun vs H1 => ∀ x dx, H1 x = none → H1 dx = none → dx ≠ x →
    sp (.ref x :: (vs ++ dvs)) (upd (upd H1 dx (.own x)) x (.ins C dx []))
      (fun v H2 => v = .non ∧ Q (.ref x) H2) E) : tMake C sp dvs E t σ H Q := h
theorem r_din (h : tb σ H fun y H1 => ta σ H1 fun x H2 => ∃ a o, x = .ref a ∧ DGet H2 a y o ∧
    Q (.bl o.isSome) H2) : tDIn tb ta σ H Q := h
theorem r_dnin (h : tb σ H fun y H1 => ta σ H1 fun x H2 => ∃ a o, x = .ref a ∧ DGet H2 a y o ∧
    Q (.bl (!o.isSome)) H2) : tDNotIn tb ta σ H Q := h
theorem r_dget (h : ta σ H fun x H1 => tb σ H1 fun y H2 => ∃ a v, x = .ref a ∧
    DGet H2 a y (some v) ∧ Q v H2) : tDGet ta tb σ H Q := h
theorem r_dput (h : tv σ H fun v H1 => ta σ H1 fun x H2 => tb σ H2 fun y H3 =>
    ∃ a H4, x = .ref a ∧ DPut H3 a y v H4 ∧ D.nx σ H4) : sDPut ta tb tv D σ H := h
/-- whether a text's key is there -/
theorem r_inK {S : Option V → Prop} {kvs : List (Key × V)} {z : Str} (h : H a = some (.dK kvs))
    (q : S (valV kvs (Sum.inr z))) :
    ∃ b o, V.ref a = .ref b ∧ DGet H b (.str z) o ∧ S o :=
  ⟨a, _, rfl, DGet.k (k := Sum.inr z) h, q⟩
theorem r_getK {S : V → Prop} {kvs : List (Key × V)} {z : Str} (h : H a = some (.dK kvs))
    (hv : valV kvs (Sum.inr z) = some v) (q : S v) :
    ∃ b v, V.ref a = .ref b ∧ DGet H b (.str z) (some v) ∧ S v :=
  ⟨a, v, rfl, by rw [← hv]; exact DGet.k (k := Sum.inr z) h, q⟩
theorem r_putK {S : Hp → Prop} {kvs : List (Key × V)} {z : Str} (h : H a = some (.dK kvs))
    (hl : kvs.length ≤ 100000) (q : S (upd H a (.dK (putK kvs (Sum.inr z) v)))) :
    ∃ b H4, V.ref a = .ref b ∧ DPut H b (.str z) v H4 ∧ S H4 :=
  ⟨a, _, rfl, DPut.k (k := Sum.inr z) h (Nat.lt_of_le_of_lt hl (by decide)), q⟩
end
end GX

set_option Elab.async false
set_option linter.all false
set_option maxRecDepth 100000
set_option maxHeartbeats 4000000
namespace GX
open PySem L2 PySem.Spec
section
variable {K : PySem.W.Frag} {σ : L2.St} {H H' : Hp} {Q : VK} {D : Ends} {a b d p : Addr}
  {xs ys : List V} {v : V} {n : Nat} {t : TG} {u : TGs} {R : L2.St → Hp → Prop}
theorem r_gtup {ts : TGs} (h : SqT K H a xs) (hl : xs.length = n) (q : ts xs σ H R) :
    gTup K n ts (.ref a) σ H R := ⟨a, xs, rfl, h, hl, q⟩
theorem r_gcons {r : List V} (q : t v σ H fun σ' H' => u r σ' H' R) : gCons t u (v :: r) σ H R :=
  ⟨v, r, rfl, q⟩
theorem r_gnil (q : R σ H) : gNil [] σ H R := ⟨rfl, q⟩
theorem r_par {i j : Nat} {ta : TA} (h : ta σ H fun vs H1 => ∃ v w, vs = [v, w] ∧
    D.nx ((σ.set i (some v)).set j (some w)) H1) : tPar i j ta D σ H := h
theorem r_pr {S : V → V → Prop} {x y : V} (q : S x y) : ∃ v w, [x, y] = [v, w] ∧ S v w :=
  ⟨x, y, rfl, q⟩
theorem r_lockE {te : TE} {o : HO} (h : H d = some o) (mu : Mut (some o))
    (q : ∀ od, te σ (upd H d (.frz od o)) fun v H' => H' d = some (.frz od o) ∧ Q v (upd H' d o)) :
    tLockE te σ H Q := ⟨d, o, h, mu, q⟩
theorem r_tuple_ofT {S : Addr → Hp → Prop} {S' : List V → Prop} (h : SqT K H a xs) (q : Q (.ref a) H) :
    ∃ p ys, [V.ref a] = [.ref p] ∧ ((SqL K H p ys ∧ ∀ l, H l = none → Q (.ref l) (upd H l (.tup ys))) ∨
      (SqT K H p ys ∧ Q (.ref p) H)) := ⟨a, xs, rfl, .inr ⟨h, q⟩⟩
theorem r_tuple_ofL (h : SqL K H a xs) (q : ∀ l, H l = none → Q (.ref l) (upd H l (.tup xs))) :
    ∃ p ys, [V.ref a] = [.ref p] ∧ ((SqL K H p ys ∧ ∀ l, H l = none → Q (.ref l) (upd H l (.tup ys))) ∨
      (SqT K H p ys ∧ Q (.ref p) H)) := ⟨a, xs, rfl, .inl ⟨h, q⟩⟩

end
/-! ### the rules with the written part said -/
section
variable {X : Cx} {K : PySem.W.Frag} {o e e2 tg : Expr} {es elts : List Expr} {ta : TA} {te to tl tv : TE} {f : Str} {pos pos' p apos cpos tpos : Pos} {kk n : Nat} {id T : String}
def rLenQ (K : PySem.W.Frag) : List V → Hp → VK → Prop := fun xs H Q => ∃ p ys, xs = [.ref p] ∧ (SqL K H p ys ∨ SqT K H p ys) ∧ Q (.int ys.length) H
def rLenG (K : PySem.W.Frag) : List V → Hp → VK → Prop := fun xs H Q => ∃ x n, xs = [x] ∧ LenV K x H n ∧ Q (.int n) H
def rListOf (K : PySem.W.Frag) : List V → Hp → VK → Prop := fun xs H Q => ∃ p ys, xs = [.ref p] ∧ (SqL K H p ys ∨ SqT K H p ys) ∧ ∀ l, H l = none → Q (.ref l) (upd H l (.lst ys))
def rTupOf (K : PySem.W.Frag) : List V → Hp → VK → Prop := fun xs H Q => ∃ p ys, xs = [.ref p] ∧ ((SqL K H p ys ∧ ∀ l, H l = none → Q (.ref l) (upd H l (.tup ys))) ∨ (SqT K H p ys ∧ Q (.ref p) H))
def rInsert : V → List V → Hp → VK → Prop := fun x vs H Q => ∃ (l : Addr) (xs : List V) (i : Int) (y : V), x = .ref l ∧ vs = [.int i, y] ∧ H l = some (.lst xs) ∧ xs.length < sizeLine ∧ 0 ≤ i ∧ i < 2 ^ 63 ∧
    Q .non (upd H l (.lst (xs.take i.toNat ++ [y] ++ xs.drop i.toNat)))
abbrev rJoin (K : PySem.W.Frag) : V → List V → Hp → VK → Prop := fun x xs H Q => ∃ a p, ∃ ys : List Str, x = .str a ∧ xs = [.ref p] ∧ (SqL K H p (ys.map V.str) ∨ SqT K H p (ys.map V.str)) ∧
      (ys.map (·.length)).sum + ys.length * a.length ≤ 16777216 ∧ Q (.str (Txt.join a ys)) H
theorem pi_listK (hK : X.K = K) (h : PE X e tl) : PI X tg e (iList K tl) := hK ▸ pi_list h
theorem pi_tupK (hK : X.K = K) (h : PE X e tl) : PI X tg e (iTup K tl) := hK ▸ pi_tup h
theorem pi_enumK (hK : X.K = K) (hg : Gl X "enumerate") (hm : X.mg "enumerate" = none) (ha : PA X [e] ta) (hs : starEach [e] X.env = [(false, eval e X.env)] := by rfl) :
    PI X (.Tuple elts kk tpos) (.Call (.Name "enumerate" p) [e] [] pos) (iEnum K ta) := hK ▸ pi_enum hg hm ha hs
theorem pi_zipK (hK : X.K = K) (hg : Gl X "zip") (hm : X.mg "zip" = none) (ha : PA X [e, e2] ta) (hs : starEach [e, e2] X.env = (false, eval e X.env) :: starEach [e2] X.env := by rfl)
    (hpl : (backTo pos (starEach [e2] X.env)).any (·.1) = false := by rfl) : PI X (.Tuple elts kk tpos) (.Call (.Name "zip" p) [e, e2] [] pos) (iZip K ta) := hK ▸ pi_zip hg hm ha hs hpl
theorem pg_tupK {t : TGs} (hK : X.K = K) (hc : X.calm = true) (h : PGs X es t) (hn : (assignEach es X.env).length = n := by rfl) (hst : (assignEach es X.env).findIdx? (·.1) = none := by rfl) :
    PG X (.Tuple es kk pos) (gTup K n t) := hK ▸ pg_tup hc h hn hst
theorem pe_fldK (hK : X.K = K) (h : PE X e te) (hb : attributeBase e f X.env (eval e X.env) = eval e X.env) : PE X (.Attribute e f pos) (tFld K te f) := hK ▸ pe_fld h hb
theorem ps_fldK {value : Expr} (hK : X.K = K) (ha : PE X o to) (hv : PE X value tv) (hs : swapsWith value (some (.Attribute o f pos')) pos.line X.env = pure false) :
    PS X (.Assign [.Attribute o f pos'] value pos) (sFld K to tv f) := hK ▸ ps_fld ha hv hs
theorem op_inK (hK : X.K = K) : OpR X (compareOp .In) (rIn K false) := hK ▸ op_in_seq
theorem op_ninK (hK : X.K = K) : OpR X (compareOp .NotIn) (rIn K true) := hK ▸ op_notIn_seq
theorem ix_listK (hK : X.K = K) : IxR X (rIxL K) := hK ▸ ix_list
theorem ix_tupK (hK : X.K = K) : IxR X (rIxT K) := hK ▸ ix_tup
theorem ix_seqK (hK : X.K = K) : IxR X (rIx K) := hK ▸ ix_seq
theorem sl_listK (hK : X.K = K) : SlR X (rSlL K) := hK ▸ sl_list
theorem sl_tupK (hK : X.K = K) : SlR X (rSlT K) := hK ▸ sl_tup
theorem call_lenQ (hK : X.K = K) : CallR X (.builtin "len") (rLenQ K) := hK ▸ call_len_seq
theorem call_lenG (hK : X.K = K) : CallR X (.builtin "len") (rLenG K) := hK ▸ call_len
theorem call_listK (hK : X.K = K) : CallR X (.type "list") (rListOf K) := hK ▸ call_list_of
theorem call_tupleK (hK : X.K = K) : CallR X (.type "tuple") (rTupOf K) := hK ▸ call_tuple_of
theorem cr_allK (hK : X.K = K) (hc : X.calm = true) : CallR X (.builtin "all") (rAll K) := hK ▸ cr_all hc
theorem cr_anyK (hK : X.K = K) (hc : X.calm = true) : CallR X (.builtin "any") (rAny K) := hK ▸ cr_any hc
theorem cr_sumK (hK : X.K = K) (hc : X.calm = true) : CallR X (.builtin "sum") (rSum K) := hK ▸ cr_sum hc
theorem op_eqDK (hK : X.K = K) (hu : X.A.units + 64 < cLine) : OpR X (compareOp .Eq) (rEqD K) := hK ▸ op_eqD hu
theorem op_neDK (hK : X.K = K) (hu : X.A.units + 64 < cLine) : OpR X (compareOp .NotEq) (rNeD K) := hK ▸ op_neD hu
theorem op_catTK (hK : X.K = K) : OpR X (binaryOp .Add) (rCatT K) := hK ▸ op_catT
theorem call_reprK (hK : X.K = K) (hG : X.A.guards = some []) (hu : X.A.units + 64 < cLine) : CallR X (.builtin "repr") (rRepr K) := hK ▸ call_reprD hG hu
theorem pe_joinK (hK : X.K = K) (ho : PE X o to) (he : PE X e te) (hs : starEach [e] X.env = [(false, eval e X.env)] := by rfl) (hbase : attributeBase o "join" X.env (eval o X.env) = eval o X.env := by rfl) (hline : (apos.endLine == pos.line) = true := by rfl) :
    PE X (.Call (.Attribute o "join" apos) [e] [] pos) (tM1 (rJoin K) to te) := hK ▸ pe_join ho he hs hbase hline
theorem pe_bmK {name : Str} {r : V → List V → Hp → VK → Prop} (hK : X.K = K) (pa : PlainAttrs T) (slot : Slot T name id) (hty : typeOf (.builtin id) = pure (.type "method_descriptor")) (hm : MtR X id r) (ho : PE X o to) (ha : PA X (e :: es) ta)
    (hbase : attributeBase o name X.env (eval o X.env) = eval o X.env := by rfl)
    (hfew : ((backTo cpos (starEach (e :: es) X.env)).all (fun x => !x.1) && (backToKw cpos (keywordEach [] X.env)).all (fun x => x.1.isSome)
      && decide ((e :: es).length + ([] : List Keyword).length + (if ([] : List Keyword).isEmpty then 0 else 1) < 30)) = true := by rfl)
    (hline : (apos.endLine == cpos.line) = true := by rfl) (hs : starEach (e :: es) X.env = (false, eval e X.env) :: starEach es X.env := by rfl) (hplain : (backTo cpos (starEach es X.env)).any (·.1) = false := by rfl) :
    PE X (.Call (.Attribute o name apos) (e :: es) [] cpos) (tBM K T r to ta) := hK ▸ pe_bm pa slot hty hm ho ha hbase hfew hline hs hplain
theorem mt_ins : MtR X "list.insert" rInsert := mt_insert
theorem mt_app : MtR X "list.append" rAppend := mt_append
theorem mt_ext : MtR X "list.extend" rExtend := mt_extend
end
section
variable {K : PySem.W.Frag} {H : Hp} {Q : VK} {a : Addr} {xs : List V} {y : V} {i : Int}
theorem r_lenQ (h : SqL K H a xs) (q : Q (.int xs.length) H) : rLenQ K [.ref a] H Q := ⟨a, xs, rfl, .inl h, q⟩
theorem r_lenQT (h : SqT K H a xs) (q : Q (.int xs.length) H) : rLenQ K [.ref a] H Q := ⟨a, xs, rfl, .inr h, q⟩
def rLenD : List V → Hp → VK → Prop := fun xs H Q => ∃ a kvs, xs = [V.ref a] ∧ H a = some (.dK kvs) ∧ Q (.int kvs.length) H
theorem call_lenDK {X : Cx} : CallR X (.builtin "len") rLenD := call_lenD
theorem r_lenD {kvs : List (Key × V)} (h : H a = some (.dK kvs)) (q : Q (.int kvs.length) H) : rLenD [.ref a] H Q := ⟨a, kvs, rfl, h, q⟩
theorem r_listOf (h : SqL K H a xs) (q : ∀ l, H l = none → Q (.ref l) (upd H l (.lst xs))) : rListOf K [.ref a] H Q := ⟨a, xs, rfl, .inl h, q⟩
theorem r_listOfT (h : SqT K H a xs) (q : ∀ l, H l = none → Q (.ref l) (upd H l (.lst xs))) : rListOf K [.ref a] H Q := ⟨a, xs, rfl, .inr h, q⟩
theorem r_tupOfT (h : SqT K H a xs) (q : Q (.ref a) H) : rTupOf K [.ref a] H Q := ⟨a, xs, rfl, .inr ⟨h, q⟩⟩
theorem r_tupOfL (h : SqL K H a xs) (q : ∀ l, H l = none → Q (.ref l) (upd H l (.tup xs))) : rTupOf K [.ref a] H Q := ⟨a, xs, rfl, .inl ⟨h, q⟩⟩
theorem r_insert (h : H a = some (.lst xs)) (hz : xs.length ≤ 1000000) (h0 : 0 ≤ i ∧ i < 2 ^ 63) (q : Q .non (upd H a (.lst (xs.take i.toNat ++ [y] ++ xs.drop i.toNat)))) :
    rInsert (.ref a) [.int i, y] H Q := ⟨a, xs, i, y, rfl, rfl, h, Nat.lt_of_le_of_lt hz (by decide), h0.1, h0.2, q⟩
theorem r_in {neg : Bool} {x : V} (h : SqL K H a xs) (hx : flatV x = true) (ha : xs.all flatV = true) (q : Q (.bl (if neg then !inV x xs else inV x xs)) H) : rIn K neg x (.ref a) H Q :=
  ⟨a, xs, rfl, .inl h, hx, ha, q⟩
theorem r_inT {neg : Bool} {x : V} (h : SqT K H a xs) (hx : flatV x = true) (ha : xs.all flatV = true) (q : Q (.bl (if neg then !inV x xs else inV x xs)) H) : rIn K neg x (.ref a) H Q :=
  ⟨a, xs, rfl, .inr h, hx, ha, q⟩
theorem r_ixsL {v : V} (h : SqL K H a xs) (e : atI xs i = some v) (q : Q v H) : rIx K (.ref a) (.int i) H Q := .inl ⟨a, xs, i, v, rfl, rfl, h, e, q⟩
theorem r_ixsT {v : V} (h : SqT K H a xs) (e : atI xs i = some v) (q : Q v H) : rIx K (.ref a) (.int i) H Q := .inr (.inl ⟨a, xs, i, v, rfl, rfl, h, e, q⟩)
theorem r_all {bs : List Bool} (h : H a = some (.lst (bs.map V.bl))) (q : Q (.bl (bs.all id)) H) : rAll K [.ref a] H Q := ⟨a, bs, rfl, SqL.of h, q⟩
theorem r_any {bs : List Bool} (h : H a = some (.lst (bs.map V.bl))) (q : Q (.bl (bs.any id)) H) : rAny K [.ref a] H Q := ⟨a, bs, rfl, SqL.of h, q⟩
theorem flat_strs (zs : List Str) : (zs.map V.str).all flatV = true := by
  rw [List.all_map]
  exact List.all_eq_true.mpr fun _ _ => rfl
theorem inV_strs (z : Str) (zs : List Str) : inV (.str z) (zs.map V.str) = decide (z ∈ zs) := by
  unfold inV
  rw [List.any_map]
  by_cases h : z ∈ zs
  · rw [decide_eq_true h]
    exact List.any_eq_true.mpr ⟨z, h, by simp [eqV]⟩
  · rw [decide_eq_false h]
    refine List.any_eq_false.mpr fun y hy => ?_
    have : ¬ y = z := fun q => h (q ▸ hy)
    simp [eqV, this]
end

section
variable {K : PySem.W.Frag} {σ : L2.St} {H H' : Hp} {Q : VK} {D : Ends} {a b d p : Addr}
  {xs ys : List V} {v : V} {n : Nat} {t : TG} {u : TGs} {R : L2.St → Hp → Prop}
/-- a while's state, its measure below m -/
def WhN (W : Nat → L2.St → Hp → Prop) (m : Nat) (σ : L2.St) (H : Hp) : Prop := ∃ m', m' < m ∧ W m' σ H
theorem r_while {c : TT} {tb : TS} (W : Nat → L2.St → Hp → Prop) (m0 : Nat) (h0 : W m0 σ H)
    (hs : ∀ m σ H, W m σ H → c σ H fun b H1 => if b = true then
      ∃ N : L2.St → Hp → Prop, (∀ σ' H', N σ' H' → ∃ m', m' < m ∧ W m' σ' H') ∧
        tb { D with nx := N, ct := N, bk := D.nx } σ H1 else D.nx σ H1) : tWhile c tb D σ H := ⟨W, ⟨m0, h0⟩, hs⟩
theorem wh_go {W : Nat → L2.St → Hp → Prop} {m : Nat} {tb : TS}
    (h : tb { D with nx := WhN W m, ct := WhN W m, bk := D.nx } σ H) :
    ∃ N : L2.St → Hp → Prop, (∀ σ' H', N σ' H' → ∃ m', m' < m ∧ W m' σ' H') ∧
        tb { D with nx := N, ct := N, bk := D.nx } σ H := ⟨_, fun _ _ z => z, h⟩
/-! ### the heap without one address -/
def hid (a : Addr) (H : Hp) : Hp := fun b => if b = a then none else H b
theorem hid_at (h : b ≠ a) : hid a H b = H b := if_neg h
theorem hid_self : hid a H a = none := if_pos rfl
theorem hid_le : Same (hid a H) H := fun b o e => by
  by_cases h : b = a
  · subst h
    rw [hid_self] at e
    cases e
  · rw [hid_at h] at e
    exact e
theorem Kp.le (k : Kp a H H') : Same (hid a H) (hid a H') := fun b o e => by
  by_cases h : b = a
  · subst h
    rw [hid_self] at e
    cases e
  · rw [hid_at h] at e ⊢
    exact k b o e h
theorem hid_none (h : H b = none) : hid a H b = none := by
  by_cases e : b = a
  · subst e
    exact hid_self
  · rw [hid_at e]
    exact h
theorem Same.hid (s : Same H H') : Same (hid a H) (GX.hid a H') := fun b o e => by
  by_cases h : b = a
  · subst h
    rw [hid_self] at e
    cases e
  · rw [hid_at h] at e ⊢
    exact s b o e
theorem hid_upd (h : p ≠ a) {o : HO} : hid a (upd H p o) = upd (hid a H) p o := by
  funext b
  by_cases e : b = a
  · subst e
    rw [hid_self, upd_ne (fun z => h z.symm), hid_self]
  · rw [hid_at e]
    by_cases f : b = p
    · subst f
      rw [upd_same, upd_same]
    · rw [upd_ne f, upd_ne f, hid_at e]

/-! ### data under a growing heap -/
mutual
theorem Dp.mono (s : Same H H') : ∀ (d : PyData) (v : V), Dp K H v d → Dp K H' v d
  | .none, _, h => by cases h; exact .non
  | .bool b, _, h => by cases h; exact .bl b
  | .int i, _, h => by cases h; exact .int i
  | .str x, _, h => by cases h; exact .str x
  | .list ds, _, h => by
    cases h with
    | lst hs ha => exact .lst (s.seq hs) (DpAll.mono s ds _ ha)
  | .tuple ds, _, h => by
    cases h with
    | tup hs ha => exact .tup (Same.seqT s hs) (DpAll.mono s ds _ ha)
  | .dict _, _, h => by cases h
theorem DpAll.mono (s : Same H H') : ∀ (ds : List PyData) (vs : List V), DpAll K H vs ds → DpAll K H' vs ds
  | [], _, h => by cases h; exact .nil
  | d :: ds, _, h => by
    cases h with
    | cons h1 h2 => exact .cons (Dp.mono s d _ h1) (DpAll.mono s ds _ h2)
end
theorem dp_tup {ds : List PyData} (h : Dp K H v (.tuple ds)) : ∃ p xs, v = .ref p ∧ SqT K H p xs ∧ DpAll K H xs ds := by
  cases h with
  | tup hs ha => exact ⟨_, _, rfl, hs, ha⟩
theorem dp_lst {ds : List PyData} (h : Dp K H v (.list ds)) : ∃ p xs, v = .ref p ∧ SqL K H p xs ∧ DpAll K H xs ds := by
  cases h with
  | lst hs ha => exact ⟨_, _, rfl, hs, ha⟩
theorem dp_all_get {ds : List PyData} : ∀ {vs : List V} {i : Nat} {w : V}, DpAll K H vs ds → vs[i]? = some w →
    ∃ e, ds[i]? = some e ∧ Dp K H w e := by
  intro vs i w h hi
  induction ds generalizing vs i with
  | nil => cases h; cases hi
  | cons e ds ih =>
    cases h with
    | cons h1 h2 =>
      cases i with
      | zero => cases hi; exact ⟨e, rfl, h1⟩
      | succ i => exact ih h2 hi
theorem dp_all_len {ds : List PyData} : ∀ {vs : List V}, DpAll K H vs ds → vs.length = ds.length := by
  induction ds with
  | nil => intro vs h; cases h; rfl
  | cons e ds ih =>
    intro vs h
    cases h with
    | cons h1 h2 => rw [List.length_cons, List.length_cons, ih h2]
theorem dp_all_app {ds es : List PyData} : ∀ {vs ws : List V}, DpAll K H vs ds → DpAll K H ws es → DpAll K H (vs ++ ws) (ds ++ es) := by
  induction ds with
  | nil => intro vs ws h g; cases h; exact g
  | cons e ds ih =>
    intro vs ws h g
    cases h with
    | cons h1 h2 => exact .cons h1 (ih h2 g)
theorem dp_strs (zs : List Str) : DpAll K H (zs.map V.str) (zs.map PyData.str) := by
  induction zs with
  | nil => exact .nil
  | cons z zs ih => exact .cons (.str z) ih
theorem dp_strs_inv : ∀ {zs : List Str} {vs : List V}, DpAll K H vs (zs.map PyData.str) → vs = zs.map V.str := by
  intro zs
  induction zs with
  | nil => intro vs h; cases h; rfl
  | cons z zs ih =>
    intro vs h
    cases h with
    | cons h1 h2 => cases h1; rw [ih h2]; rfl
theorem dp_ints (zs : List Int) : DpAll K H (zs.map V.int) (zs.map PyData.int) := by
  induction zs with
  | nil => exact .nil
  | cons z zs ih => exact .cons (.int z) ih
theorem dp_ints_inv : ∀ {zs : List Int} {vs : List V}, DpAll K H vs (zs.map PyData.int) → vs = zs.map V.int := by
  intro zs
  induction zs with
  | nil => intro vs h; cases h; rfl
  | cons z zs ih =>
    intro vs h
    cases h with
    | cons h1 h2 => cases h1; rw [ih h2]; rfl

/-! ### dicts walked -/
theorem for_K {kvs : List (Key × V)} {o : Obj} {g : TG} {tb : TS} (Pv : Nat → L2.St → Hp → Prop) (h0 : Pv 0 σ H)
    (hG : ∀ i σ H, i ≤ kvs.length → Pv i σ H → H d = some (.frz o (.dK kvs)))
    (hs : ∀ i k w σ H, kvs[i]? = some (k, w) → Pv i σ H → g (kV k) σ H fun σ2 H2 =>
      tb { D with nx := Pv (i + 1), ct := Pv (i + 1), bk := D.nx } σ2 H2)
    (hd : ∀ σ H, Pv kvs.length σ H → D.nx σ H) : ForGo g tb D (Itk d o kvs) σ H :=
  for_go walk_keys Pv h0 hG (fun i x σ H H' hi p y => by
    obtain ⟨rfl, k, w, e, rfl⟩ := y
    exact hs i k w σ H' e p) hd
theorem lc_V {kvs : List (Key × V)} {o : Obj} {g : TG} {tt : TT} {te : TE} {vs : List Nat}
    (Pv : Addr → Nat → List V → Hp → Prop)
    (h0 : ∀ E, H E = none → Pv E 0 [] (upd H E (.lst [])))
    (hG : ∀ E i acc H', i ≤ kvs.length → H E = none → Pv E i acc H' → H' d = some (.frz o (.dK kvs)))
    (hs : ∀ E i acc k x H', kvs[i]? = some (k, x) → H E = none → acc.length ≤ i → H' E = some (.lst acc) →
      Pv E i acc H' → g x (wipe σ vs) H' fun σ2 H3 => wipe σ2 vs = wipe σ vs ∧
      tt σ2 H3 fun b H4 => if b = true then te σ2 H4 fun y H5 =>
        ∃ acc, H5 E = some (.lst acc) ∧ acc.length < sizeLine ∧
          LcIn E (Pv E (i + 1)) (i + 1) (upd H5 E (.lst (acc ++ [y])))
        else LcIn E (Pv E (i + 1)) (i + 1) H4)
    (hd : ∀ E acc H', H E = none → acc.length ≤ kvs.length → Pv E kvs.length acc H' →
      H' E = some (.lst acc) → Q (.ref E) H') : LcGo g tt te vs σ Q (Itd d o kvs) H :=
  lc_go walk_values Pv h0 hG (fun E i acc x H1 H2 hi hE hl hA p y => by
    obtain ⟨rfl, k, e⟩ := y
    exact hs E i acc k x _ e hE hl hA p) hd
theorem lc_I {kvs : List (Key × V)} {o : Obj} {g : TG} {tt : TT} {te : TE} {vs : List Nat}
    (Pv : Addr → Nat → List V → Hp → Prop)
    (h0 : ∀ E, H E = none → Pv E 0 [] (upd H E (.lst [])))
    (hG : ∀ E i acc H', i ≤ kvs.length → H E = none → Pv E i acc H' → H' d = some (.frz o (.dK kvs)))
    (hs : ∀ E i acc k x H' q, kvs[i]? = some (k, x) → H E = none → acc.length ≤ i → H' E = some (.lst acc) →
      Pv E i acc H' → H' q = none → g (.ref q) (wipe σ vs) (upd H' q (.tup [kV k, x])) fun σ2 H3 => wipe σ2 vs = wipe σ vs ∧
      tt σ2 H3 fun b H4 => if b = true then te σ2 H4 fun y H5 =>
        ∃ acc, H5 E = some (.lst acc) ∧ acc.length < sizeLine ∧
          LcIn E (Pv E (i + 1)) (i + 1) (upd H5 E (.lst (acc ++ [y])))
        else LcIn E (Pv E (i + 1)) (i + 1) H4)
    (hd : ∀ E acc H', H E = none → acc.length ≤ kvs.length → Pv E kvs.length acc H' →
      H' E = some (.lst acc) → Q (.ref E) H') : LcGo g tt te vs σ Q (Iti d o kvs) H :=
  lc_go walk_items Pv h0 hG (fun E i acc x H1 H2 hi hE hl hA p y => by
    obtain ⟨q, u, v, rfl, hq, rfl, h1, h2⟩ := y
    obtain ⟨⟨k, w⟩, e⟩ : ∃ kw, kvs[i]? = some kw := ⟨kvs[i], by simp [hi]⟩
    have h1 : (kvs[i]?.map fun kv => kV kv.1) = some u := h1
    have h2 : kvs[i]?.map Prod.snd = some v := h2
    rw [e] at h1 h2
    cases h1
    cases h2
    exact hs E i acc k _ _ q e hE hl hA p hq) hd
theorem r_iVals {td : TE} {S : It → Hp → Prop} (h : td σ H fun x H1 => ∃ d o kvs, x = .ref d ∧ H1 d = some (.frz o (.dK kvs)) ∧ S (Itd d o kvs) H1) :
    iVals td σ H S := h
theorem r_iItems {td : TE} {S : It → Hp → Prop} (h : td σ H fun x H1 => ∃ d o kvs, x = .ref d ∧ H1 d = some (.frz o (.dK kvs)) ∧ S (Iti d o kvs) H1) :
    iItems td σ H S := h
theorem r_dwalk {S : Addr → Obj → List (Key × V) → Prop} {o : Obj} {kvs : List (Key × V)} (h : H d = some (.frz o (.dK kvs))) (q : S d o kvs) :
    ∃ d' o kvs, V.ref d = .ref d' ∧ H d' = some (.frz o (.dK kvs)) ∧ S d' o kvs := ⟨d, o, kvs, rfl, h, q⟩
theorem r_iKeys {td : TE} {S : It → Hp → Prop} (h : td σ H fun x H1 => ∃ d o, x = .ref d ∧ ((∃ kvs, H1 d = some (.frz o (.dK kvs)) ∧ S (Itk d o kvs) H1) ∨
    ∃ kvs, H1 d = some (.frz o (.dT kvs)) ∧ S (Itkt d o kvs) H1)) : iKeys td σ H S := h
theorem r_kwalk {S S' : Addr → Obj → Prop} {o : Obj} {U : List (Key × V) → Addr → Obj → Prop} {kvs : List (Key × V)} (h : H d = some (.frz o (.dK kvs))) (q : U kvs d o) :
    ∃ d' o, V.ref d = .ref d' ∧ ((∃ kvs, H d' = some (.frz o (.dK kvs)) ∧ U kvs d' o) ∨ S d' o) := ⟨d, o, rfl, .inl ⟨kvs, h, q⟩⟩
end
end GX

set_option Elab.async false
set_option linter.all false
set_option maxRecDepth 100000
set_option maxHeartbeats 4000000
namespace GX
open PySem L2 PySem.Spec
theorem snoc_ind {α : Type} {P : List α → Prop} (h0 : P []) (h1 : ∀ l a, P l → P (l ++ [a])) : ∀ l, P l := by
  have r : ∀ l : List α, P l.reverse := by
    intro l
    induction l with
    | nil => exact h0
    | cons a l ih =>
      rw [List.reverse_cons]
      exact h1 _ _ ih
  intro l
  have z := r l.reverse
  rw [List.reverse_reverse] at z
  exact z
/-! ### signatures, as plain data -/
/-- a constructor: its name, its kind, the kinds of its parts -/
abbrev Trip := Str × Str × List Str
def addKind (acc : List Str) (t : Trip) : List Str := if t.2.1 ∈ acc then acc else acc ++ [t.2.1]
def kindsOf (ts : List Trip) : List Str := ts.foldl addKind []
def consOf (ts : List Trip) (k : Str) : List Str := (ts.filter fun t => decide (t.2.1 = k)).map (·.1)
/-- a kind with a finite tree -/
inductive Fint (ts : List Trip) : Str → Prop
  | mk {t : Trip} : t ∈ ts → (∀ p ∈ t.2.2, Fint ts p) → Fint ts t.2.1
theorem kindsOf_app (ts : List Trip) (t : Trip) : kindsOf (ts ++ [t]) = addKind (kindsOf ts) t := by
  unfold kindsOf
  rw [List.foldl_append]
  rfl
theorem mem_kindsOf : ∀ (ts : List Trip) (k : Str), k ∈ kindsOf ts ↔ ∃ t ∈ ts, t.2.1 = k := by
  refine snoc_ind ?_ ?_
  · intro k
    constructor
    · intro h
      cases h
    · rintro ⟨t, h, _⟩
      cases h
  · intro ts t ih k
    rw [kindsOf_app]
    unfold addKind
    split
    · rename_i hm
      rw [ih]
      constructor
      · rintro ⟨u, h1, h2⟩
        exact ⟨u, List.mem_append_left _ h1, h2⟩
      · rintro ⟨u, h1, h2⟩
        rcases List.mem_append.mp h1 with h | h
        · exact ⟨u, h, h2⟩
        · rw [List.mem_singleton.mp h] at h2
          rw [← h2]
          exact (ih _).mp hm
    · rw [List.mem_append, ih, List.mem_singleton]
      constructor
      · rintro (⟨u, h1, h2⟩ | h)
        · exact ⟨u, List.mem_append_left _ h1, h2⟩
        · exact ⟨t, List.mem_append_right _ (List.mem_singleton.mpr rfl), h.symm⟩
      · rintro ⟨u, h1, h2⟩
        rcases List.mem_append.mp h1 with h | h
        · exact .inl ⟨u, h, h2⟩
        · rw [List.mem_singleton.mp h] at h2
          exact .inr h2.symm
theorem nodup_kindsOf : ∀ ts : List Trip, (kindsOf ts).Nodup := by
  refine snoc_ind List.nodup_nil ?_
  · intro ts t ih
    rw [kindsOf_app]
    unfold addKind
    split
    · exact ih
    · rename_i hm
      refine List.nodup_append.mpr ⟨ih, by simp, ?_⟩
      intro a ha b hb e
      rw [List.mem_singleton.mp hb] at e
      exact hm (e ▸ ha)
theorem consOf_app (ts : List Trip) (t : Trip) (k : Str) :
    consOf (ts ++ [t]) k = if t.2.1 = k then consOf ts k ++ [t.1] else consOf ts k := by
  unfold consOf
  rw [List.filter_append, List.map_append]
  by_cases h : t.2.1 = k
  · rw [if_pos h]
    simp [h]
  · rw [if_neg h]
    simp [h]
theorem consOf_none {ts : List Trip} {k : Str} (h : k ∉ kindsOf ts) : consOf ts k = [] := by
  unfold consOf
  rw [List.map_eq_nil_iff, List.filter_eq_nil_iff]
  intro t ht e
  exact h ((mem_kindsOf ts k).mpr ⟨t, ht, of_decide_eq_true e⟩)

/-! ### dicts by a function of their keys -/
theorem val_at {α : Type} (f : α → Str) (v : α → V) : ∀ (ts : List α) (t : α), t ∈ ts → (ts.map f).Nodup →
    valV (ts.map fun t => ((Sum.inr (f t) : Key), v t)) (Sum.inr (f t)) = some (v t) := by
  intro ts t ht nd
  induction ts with
  | nil => cases ht
  | cons a r ih =>
    rw [List.map_cons, List.nodup_cons] at nd
    unfold valV
    rw [List.map_cons, List.find?_cons]
    rcases List.mem_cons.mp ht with e | e
    · subst e
      simp
    · have ne : ¬ (Sum.inr (f a) : Key) = Sum.inr (f t) := fun q => nd.1 (by
        rw [Sum.inr.inj q]
        exact List.mem_map_of_mem e)
      rw [decide_eq_false ne]
      exact ih e nd.2
theorem val_none {α : Type} (f : α → Str) (v : α → V) : ∀ (ts : List α) (z : Str), z ∉ ts.map f →
    valV (ts.map fun t => ((Sum.inr (f t) : Key), v t)) (Sum.inr z) = none := by
  intro ts z hz
  induction ts with
  | nil => rfl
  | cons a r ih =>
    rw [List.map_cons, List.mem_cons, not_or] at hz
    unfold valV
    rw [List.map_cons, List.find?_cons]
    have ne : ¬ (Sum.inr (f a) : Key) = Sum.inr z := fun q => hz.1 (Sum.inr.inj q).symm
    rw [decide_eq_false ne]
    exact ih hz.2
theorem val_some {α : Type} (f : α → Str) (v : α → V) (ts : List α) (z : Str) (nd : (ts.map f).Nodup) :
    (valV (ts.map fun t => ((Sum.inr (f t) : Key), v t)) (Sum.inr z)).isSome = decide (z ∈ ts.map f) := by
  by_cases h : z ∈ ts.map f
  · obtain ⟨t, ht, rfl⟩ := List.mem_map.mp h
    rw [val_at f v ts t ht nd, decide_eq_true h]
    rfl
  · rw [val_none f v ts z h, decide_eq_false h]
    rfl

/-! ### a signature's object -/
def sflds (de dg : Addr) : List (Str × V) := putF "grouped" (.ref dg) (putF "entries" (.ref de) [])
theorem ne_gr : ¬ (("entries" : Str) = "grouped") := by decide +kernel
theorem fl_entries (de dg : Addr) : (sflds de dg).lookup ("entries" : Str) = some (V.ref de) := by
  unfold sflds
  rw [lookup_putF, if_neg ne_gr, lookup_putF, if_pos rfl]
theorem fl_grouped (de dg : Addr) : (sflds de dg).lookup ("grouped" : Str) = some (V.ref dg) := by
  unfold sflds
  rw [lookup_putF, if_pos rfl]
theorem fl_no (de dg : Addr) {m : Str} (h1 : ¬ m = "grouped") (h2 : ¬ m = "entries") : (sflds de dg).lookup m = none := by
  unfold sflds
  rw [lookup_putF, if_neg h1, lookup_putF, if_neg h2]
  rfl
def entD (E : Str → Addr) (ts : List Trip) : List (Key × V) := ts.map fun t => (Sum.inr t.1, V.ref (E t.1))
def grpD (L : Str → Addr) (ts : List Trip) : List (Key × V) := (kindsOf ts).map fun k => (Sum.inr k, V.ref (L k))
/-- a Signature stands at S over the ground G: its own objects are none of G's -/
structure SigIn (G : Hp) (K : PySem.W.Frag) (H : Hp) (C S dx de dg : Addr) (E A L : Str → Addr) (ts : List Trip) : Prop where
  ob : H S = some (.ins C dx (sflds de dg))
  en : H de = some (.dK (entD E ts))
  gr : H dg = some (.dK (grpD L ts))
  ent : ∀ t ∈ ts, SqT K H (E t.1) [.str t.2.1, .ref (A t.1)] ∧ SqT K H (A t.1) (t.2.2.map V.str)
  grp : ∀ k ∈ kindsOf ts, H (L k) = some (.lst ((consOf ts k).map V.str)) ∧ G (L k) = none
  inj : ∀ k ∈ kindsOf ts, ∀ k' ∈ kindsOf ts, L k = L k' → k = k'
  fS : G S = none
  fe : G de = none
  fg : G dg = none
  dn : de ≠ dg
def SigAt (G : Hp) (K : PySem.W.Frag) (H : Hp) (C S : Addr) (ts : List Trip) : Prop :=
  ∃ dx de dg E A L, SigIn G K H C S dx de dg E A L ts
theorem SigIn.mono {G K H H' C S dx de dg E A L ts} (h : SigIn G K H C S dx de dg E A L ts) (s : Same H H') : SigIn G K H' C S dx de dg E A L ts :=
  ⟨s _ _ h.ob, s _ _ h.en, s _ _ h.gr, fun t ht => ⟨Same.seqT s (h.ent t ht).1, Same.seqT s (h.ent t ht).2⟩, fun k hk => ⟨s _ _ (h.grp k hk).1, (h.grp k hk).2⟩,
    h.inj, h.fS, h.fe, h.fg, h.dn⟩
theorem SigAt.mono {G K H H' C S ts} (h : SigAt G K H C S ts) (s : Same H H') : SigAt G K H' C S ts := by
  obtain ⟨dx, de, dg, E, A, L, h⟩ := h
  exact ⟨dx, de, dg, E, A, L, h.mono s⟩
theorem sqT_mut {K : PySem.W.Frag} {H : Hp} {p a : Addr} {o o' : HO} {xs : List V} (h : H p = some o) (n1 : ∀ ys, o ≠ .tup ys) (n2 : ∀ ob u, o ≠ .frz ob u)
    (hs : SqT K H a xs) : SqT K (upd H p o') a xs := by
  rcases hs with (hs | ⟨ob, hs⟩) | hs
  · exact .inl (.inl ((upd_ne (ne_of hs h fun e => n1 _ e.symm)).trans hs))
  · exact .inl (.inr ⟨ob, (upd_ne (ne_of hs h fun e => n2 _ _ e.symm)).trans hs⟩)
  · exact .inr hs
theorem entD_app {E : Str → Addr} {ts : List Trip} {t : Trip} {p : Addr} (nin : t.1 ∉ ts.map (·.1)) :
    entD (fun z => if z = t.1 then p else E z) (ts ++ [t]) = entD E ts ++ [(Sum.inr t.1, V.ref p)] := by
  unfold entD
  rw [List.map_append]
  congr 1
  · refine List.map_congr_left fun u hu => ?_
    have ne : ¬ u.1 = t.1 := fun q => nin (q ▸ List.mem_map_of_mem hu)
    simp only [if_neg ne]
  · show [(Sum.inr t.1, V.ref (if t.1 = t.1 then p else E t.1))] = _
    rw [if_pos rfl]
theorem SigIn.add {G K H H6 C S dx de dg E A L ts} {t : Trip} {p q : Addr} (h : SigIn G K H C S dx de dg E A L ts) (nin : t.1 ∉ ts.map (·.1))
    (hS : H6 S = H S) (hde : H6 de = some (.dK (entD E ts ++ [(Sum.inr t.1, V.ref p)]))) (hp : H6 p = some (.tup [.str t.2.1, .ref q]))
    (hq : SqT K H6 q (t.2.2.map V.str)) (tups : ∀ a xs, SqT K H a xs → SqT K H6 a xs) (L' : Str → Addr) (hdg : H6 dg = some (.dK (grpD L' (ts ++ [t]))))
    (hgrp : ∀ k ∈ kindsOf (ts ++ [t]), H6 (L' k) = some (.lst ((consOf (ts ++ [t]) k).map V.str)) ∧ G (L' k) = none)
    (inj : ∀ k ∈ kindsOf (ts ++ [t]), ∀ k' ∈ kindsOf (ts ++ [t]), L' k = L' k' → k = k') : SigAt G K H6 C S (ts ++ [t]) := by
  refine ⟨dx, de, dg, fun z => if z = t.1 then p else E z, fun z => if z = t.1 then q else A z, L', hS.trans h.ob, ?_, hdg, ?_, hgrp, inj, h.fS, h.fe, h.fg, h.dn⟩
  · rw [entD_app nin]
    exact hde
  · intro u hu
    try dsimp only
    rcases List.mem_append.mp hu with hm | hm
    · have ne : ¬ u.1 = t.1 := fun q => nin (q ▸ List.mem_map_of_mem hm)
      rw [if_neg ne, if_neg ne]
      exact ⟨tups _ _ (h.ent u hm).1, tups _ _ (h.ent u hm).2⟩
    · rw [List.mem_singleton.mp hm, if_pos rfl, if_pos rfl]
      exact ⟨SqT.of hp, hq⟩
/-- which constructors a signature may have -/
structure Good (nm : Str → Bool) (ts : List Trip) : Prop where
  names : ∀ t ∈ ts, nm t.1 = true ∧ nm t.2.1 = true
  nd : (ts.map (·.1)).Nodup
  kinds : (kindsOf ts).length ≤ 4
  cons : ∀ k ∈ kindsOf ts, (consOf ts k).length ≤ 6
  parts : ∀ t ∈ ts, t.2.2.length ≤ 3
  known : ∀ t ∈ ts, ∀ p ∈ t.2.2, p ∈ kindsOf ts
  fin : ∀ k ∈ kindsOf ts, Fint ts k
  few : ts.length ≤ 1000
  short : ∀ t ∈ ts, t.1.length ≤ 1000 ∧ t.2.1.length ≤ 1000
section
variable {σ : L2.St} {H : Hp} {Q : VK} {td ty tx : TE}
theorem r_dsetd (h : td σ H fun x H1 => ∃ a, x = .ref a ∧ IsD H1 a ∧ ty σ H1 fun y H2 => tx σ H2 fun z H3 => ∃ (kvs : List (Key × V)) (k : Key), H3 a = some (.dK kvs) ∧ y = kV k ∧
    kvs.length < sizeLine ∧ (∀ v, valV kvs k = some v → Q v H3) ∧ (valV kvs k = none → Q z (upd H3 a (.dK (putK kvs k z))))) : tDSetd td ty tx σ H Q := h
theorem r_isD {S : Addr → Prop} {a : Addr} {kvs : List (Key × V)} (h : H a = some (.dK kvs)) (q : S a) : ∃ b, V.ref a = .ref b ∧ IsD H b ∧ S b := ⟨a, rfl, .inl ⟨kvs, .inl h⟩, q⟩
end
theorem lock_same {H H' : Hp} {d : Addr} {od : Obj} {o : HO} (s : Same (upd H d (.frz od o)) H') (h : H d = some o) : Same H (upd H' d o) := fun b u e => by
  by_cases hb : b = d
  · subst hb
    rw [upd_same, ← h]
    exact e
  · rw [upd_ne hb]
    exact s b u ((upd_ne hb).trans e)
theorem lock_at {H H' : Hp} {d : Addr} {od : Obj} {o : HO} (s : Same (upd H d (.frz od o)) H') : H' d = some (.frz od o) := s _ _ upd_same
theorem lock_get {H H' : Hp} {d b : Addr} {od : Obj} {o u : HO} (s : Same (upd H d (.frz od o)) H') (ne : b ≠ d) (h : H b = some u) : H' b = some u := s _ _ ((upd_ne ne).trans h)
theorem sqT_lock {K : PySem.W.Frag} {H H' : Hp} {d a : Addr} {od : Obj} {o : HO} {xs : List V} (s : Same (upd H d (.frz od o)) H') (hd : H d = some o) (n1 : ∀ ys, o ≠ .tup ys) (n2 : ∀ ob u, o ≠ .frz ob u)
    (h : SqT K H a xs) : SqT K H' a xs := Same.seqT s (sqT_mut hd n1 n2 h)
theorem any_false {α : Type} (f : α → Bool) (l : List α) (h : ∀ x ∈ l, f x = false) : (l.map f).any id = false := by
  rw [List.any_map]
  exact List.any_eq_false.mpr fun x hx => by simp [h x hx]
end GX

set_option Elab.async false
set_option linter.all false
set_option maxRecDepth 100000
set_option maxHeartbeats 4000000
namespace GX
open PySem L2 PySem.Spec
/-! ### a list made item by item, no item left out -/
section
variable {K : PySem.W.Frag} {σ : L2.St} {H : Hp} {Q : VK} {te : TE} {g : TG} {a la b d : Addr} {vs : List Nat}
theorem pm_go {J : It} {n : Nat} {G : Hp → Prop} {Y : Nat → Hp → V → Hp → Prop} (w : Walk J n G Y) (hn : n ≤ 1000000)
    (Z : Hp → Prop) (B : Hp → Hp → Prop) (R : Nat → V → Hp → Prop)
    (z0 : ∀ D, H D = none → Z (upd H D (.lst [])))
    (zB : ∀ H1 H5, Z H1 → B H1 H5 → Z H5)
    (zP : ∀ D H' o, H D = none → Z H' → Z (upd H' D o))
    (keep : ∀ D H1 H5 o, H D = none → H1 D = some o → Z H1 → B H1 H5 → H5 D = some o)
    (rB : ∀ D H1 H5 j x, H D = none → Z H1 → B H1 H5 → R j x (hid D H1) → R j x (hid D H5))
    (hG : ∀ H', Z H' → G H')
    (hs : ∀ D i x H1 H2 (Q' : VK), i < n → H D = none → (∃ o, H1 D = some o) → Z H1 → Y i H1 x H2 →
      (∀ y H5, B H1 H5 → R i y (hid D H5) → Q' y H5) → g x (wipe σ vs) H2 fun σ2 H3 => wipe σ2 vs = wipe σ vs ∧ te σ2 H3 Q')
    (hd : ∀ D ys H', H D = none → Z H' → H' D = some (.lst ys) → ys.length = n → (∀ i y, ys[i]? = some y → R i y (hid D H')) → Q (.ref D) H') :
    LcGo g tYes te vs σ Q J H := by
  have hu : ∀ D (H' : Hp) o, hid D (upd H' D o) = hid D H' := fun D H' o => by
    funext c
    unfold hid
    by_cases e : c = D
    · rw [if_pos e, if_pos e]
    · rw [if_neg e, if_neg e, upd_ne e]
  refine lc_go w (fun D i acc H' => Z H' ∧ acc.length = i ∧ ∀ j y, acc[j]? = some y → R j y (hid D H')) ?_ ?_ ?_ ?_
  · intro D hD
    exact ⟨z0 D hD, rfl, fun j y e => by cases e⟩
  · intro D i acc H' _ _ h
    exact hG _ h.1
  · intro D i acc x H1 H2 hi hD hl hA ⟨hz, hlen, hR⟩ y
    refine hs D i x H1 H2 (fun y H5 => ∃ acc, H5 D = some (.lst acc) ∧ acc.length < sizeLine ∧
          LcIn D ((fun D i acc H' => Z H' ∧ acc.length = i ∧ ∀ j y, acc[j]? = some y → R j y (hid D H')) D (i + 1)) (i + 1) (upd H5 D (.lst (acc ++ [y])))) hi hD ⟨_, hA⟩ hz y ?_
    intro v H5 hb hr
    refine lc_put (keep D H1 H5 _ hD hA hz hb) hl (by omega) ⟨zP D H5 _ hD (zB _ _ hz hb), ?_, ?_⟩
    · rw [List.length_append, hlen]
      rfl
    · intro j u e
      rw [hu]
      by_cases hj : j < acc.length
      · rw [List.getElem?_append_left hj] at e
        exact rB D H1 H5 j u hD hz hb (hR j u e)
      · rw [List.getElem?_append_right (by omega)] at e
        cases ez : j - acc.length with
        | zero =>
          rw [ez] at e
          cases e
          have : j = i := by omega
          subst this
          exact hr
        | succ m =>
          rw [ez] at e
          cases e
  · rintro D acc H' hD hl ⟨hz, hlen, hR⟩ hA
    exact hd D acc H' hD hz hA hlen hR
/-- the items leave what stands as it is -/
theorem pmS_go {J : It} {n : Nat} {G : Hp → Prop} {Y : Nat → Hp → V → Hp → Prop} (w : Walk J n G Y) (hn : n ≤ 1000000)
    (R : Nat → V → Hp → Prop) (hR : ∀ j x H1 H2, R j x H1 → Same H1 H2 → R j x H2)
    (hG : ∀ H', Same H H' → G H')
    (hs : ∀ D i x H1 H2 (Q' : VK), i < n → H D = none → (∃ o, H1 D = some o) → Same H H1 → Y i H1 x H2 →
      (∀ y H5, Same H1 H5 → R i y (hid D H5) → Q' y H5) → g x (wipe σ vs) H2 fun σ2 H3 => wipe σ2 vs = wipe σ vs ∧ te σ2 H3 Q')
    (hd : ∀ D ys H', H D = none → Same H H' → H' D = some (.lst ys) → ys.length = n → (∀ i y, ys[i]? = some y → R i y (hid D H')) → Q (.ref D) H') :
    LcGo g tYes te vs σ Q J H :=
  pm_go w hn (Same H) Same R (fun _ hD => Same.new hD) (fun _ _ p q => p.trans q) (fun D H' o hD s => same_set s hD) (fun D H1 H5 o _ h _ s => s _ _ h)
    (fun D H1 H5 j x _ _ s r => hR _ _ _ _ r (Same.hid s)) hG hs hd
/-- the items may draw -/
theorem pmD_go {J : It} {n : Nat} {G : Hp → Prop} {Y : Nat → Hp → V → Hp → Prop} (w : Walk J n G Y) (hn : n ≤ 1000000) (hsrc : Src H a la)
    (R : Nat → V → Hp → Prop) (hR : ∀ j x H1 H2, R j x H1 → Same H1 H2 → R j x H2)
    (hG : ∀ H', Kp a H H' → Src H' a la → G H')
    (hs : ∀ D i x H1 H2 (Q' : VK), i < n → H D = none → (∃ o, H1 D = some o) → Kp a H H1 → Src H1 a la → Y i H1 x H2 →
      (∀ y H5, Kp a H1 H5 → Src H5 a la → R i y (hid a (hid D H5)) → Q' y H5) → g x (wipe σ vs) H2 fun σ2 H3 => wipe σ2 vs = wipe σ vs ∧ te σ2 H3 Q')
    (hd : ∀ D ys H', H D = none → Kp a H H' → Src H' a la → H' D = some (.lst ys) → ys.length = n → (∀ i y, ys[i]? = some y → R i y (hid a (hid D H'))) → Q (.ref D) H') :
    LcGo g tYes te vs σ Q J H :=
  pm_go w hn (fun H' => Kp a H H' ∧ Src H' a la) (fun H1 H5 => Kp a H1 H5 ∧ Src H5 a la) (fun j x H => R j x (hid a H))
    (fun D hD => ⟨(Kp.refl a H).set hD, hsrc.new hD⟩) (fun _ _ p q => ⟨p.1.trans q.1, q.2⟩) (fun D H' o hD s => ⟨s.1.set hD, s.2.upd (hsrc.apart hD)⟩)
    (fun D H1 H5 o hD h _ s => s.1 _ _ h (hsrc.apart hD).1)
    (fun D H1 H5 j x hD _ s r => hR _ _ _ _ r (fun b o e => by
      by_cases h : b = a
      · subst h
        rw [hid_self] at e
        cases e
      · rw [hid_at h] at e ⊢
        by_cases h2 : b = D
        · subst h2
          rw [hid_self] at e
          cases e
        · rw [hid_at h2] at e ⊢
          exact s.1 b o e h)) (fun H' z => hG H' z.1 z.2)
    (fun D i x H1 H2 Q' hi hD hx hz hy k => hs D i x H1 H2 Q' hi hD hx hz.1 hz.2 hy fun y H5 h1 h2 h3 => k y H5 ⟨h1, h2⟩ h3)
    (fun D ys H' hD hz hA hl hr => hd D ys H' hD hz.1 hz.2 hA hl hr)
abbrev StS (D : Addr) (H H1 : Hp) (R : V → Hp → Prop) (Q' : VK) : Prop := ∀ y H5, Same H1 H5 → R y (hid D H5) → Q' y H5
abbrev DnS (H : Hp) (n : Nat) (R : Nat → V → Hp → Prop) (Q : VK) : Prop :=
  ∀ D ys H', H D = none → Same H H' → H' D = some (.lst ys) → ys.length = n → (∀ i y, ys[i]? = some y → R i y (hid D H')) → Q (.ref D) H'
abbrev StD (a la D : Addr) (H1 : Hp) (R : V → Hp → Prop) (Q' : VK) : Prop := ∀ y H5, Kp a H1 H5 → Src H5 a la → R y (hid a (hid D H5)) → Q' y H5
abbrev DnD (a la : Addr) (H : Hp) (n : Nat) (R : Nat → V → Hp → Prop) (Q : VK) : Prop :=
  ∀ D ys H', H D = none → Kp a H H' → Src H' a la → H' D = some (.lst ys) → ys.length = n → (∀ i y, ys[i]? = some y → R i y (hid a (hid D H'))) → Q (.ref D) H'
abbrev MonR (R : Nat → V → Hp → Prop) : Prop := ∀ j x H1 H2, R j x H1 → Same H1 H2 → R j x H2
theorem pmS_L (xs : List V) (R : Nat → V → Hp → Prop) (hR : MonR R) (hn : xs.length ≤ 1000000) (hx : SqL K H b xs)
    (hs : ∀ D i x H1 (Q' : VK), xs[i]? = some x → H D = none → (∃ o, H1 D = some o) → Same H H1 → StS D H H1 (R i) Q' →
      g x (wipe σ vs) H1 fun σ2 H3 => wipe σ2 vs = wipe σ vs ∧ te σ2 H3 Q')
    (hd : DnS H xs.length R Q) : LcGo g tYes te vs σ Q (Itl K b) H :=
  pmS_go (walk_list (xs := xs)) hn R hR (fun H' s => s.seq hx) (fun D i x H1 H2 Q' hi hD ho hz hy k => by obtain ⟨rfl, e⟩ := hy; exact hs D i x _ Q' e hD ho hz k) hd
theorem pmS_T (xs : List V) (R : Nat → V → Hp → Prop) (hR : MonR R) (hn : xs.length ≤ 1000000) (hx : SqT K H b xs)
    (hs : ∀ D i x H1 (Q' : VK), xs[i]? = some x → H D = none → (∃ o, H1 D = some o) → Same H H1 → StS D H H1 (R i) Q' →
      g x (wipe σ vs) H1 fun σ2 H3 => wipe σ2 vs = wipe σ vs ∧ te σ2 H3 Q')
    (hd : DnS H xs.length R Q) : LcGo g tYes te vs σ Q (Itt K b) H :=
  pmS_go (walk_tup (xs := xs)) hn R hR (fun H' s => Same.seqT s hx) (fun D i x H1 H2 Q' hi hD ho hz hy k => by obtain ⟨rfl, e⟩ := hy; exact hs D i x _ Q' e hD ho hz k) hd
theorem pmS_R (lo : Int) (n : Nat) (R : Nat → V → Hp → Prop) (hR : MonR R) (hn : n ≤ 1000000)
    (hs : ∀ D i H1 (Q' : VK), i < n → H D = none → (∃ o, H1 D = some o) → Same H H1 → StS D H H1 (R i) Q' →
      g (V.int (lo + (i : Nat))) (wipe σ vs) H1 fun σ2 H3 => wipe σ2 vs = wipe σ vs ∧ te σ2 H3 Q')
    (hd : DnS H n R Q) : LcGo g tYes te vs σ Q (Itr lo n) H :=
  pmS_go (walk_range (lo := lo) (n := n)) hn R hR (fun _ _ => trivial) (fun D i x H1 H2 Q' hi hD ho hz hy k => by obtain ⟨rfl, rfl⟩ := hy; exact hs D i _ Q' hi hD ho hz k) hd
theorem pmS_S (z : Str) (R : Nat → V → Hp → Prop) (hR : MonR R) (hn : z.cps.size ≤ 1000000)
    (hs : ∀ D i c H1 (Q' : VK), z.cps[i]? = some c → H D = none → (∃ o, H1 D = some o) → Same H H1 → StS D H H1 (R i) Q' →
      g (V.str ⟨#[c]⟩) (wipe σ vs) H1 fun σ2 H3 => wipe σ2 vs = wipe σ vs ∧ te σ2 H3 Q')
    (hd : DnS H z.cps.size R Q) : LcGo g tYes te vs σ Q (Its z) H :=
  pmS_go (walk_str (z := z)) hn R hR (fun _ _ => trivial) (fun D i x H1 H2 Q' hi hD ho hz hy k => by obtain ⟨rfl, c, e, rfl⟩ := hy; exact hs D i c _ Q' e hD ho hz k) hd
theorem pmS_V {kvs : List (Key × V)} {o : Obj} (R : Nat → V → Hp → Prop) (hR : MonR R) (hn : kvs.length ≤ 1000000) (hx : H d = some (.frz o (.dK kvs)))
    (hs : ∀ D i k x H1 (Q' : VK), kvs[i]? = some (k, x) → H D = none → (∃ o, H1 D = some o) → Same H H1 → StS D H H1 (R i) Q' →
      g x (wipe σ vs) H1 fun σ2 H3 => wipe σ2 vs = wipe σ vs ∧ te σ2 H3 Q')
    (hd : DnS H kvs.length R Q) : LcGo g tYes te vs σ Q (Itd d o kvs) H :=
  pmS_go walk_values hn R hR (fun H' s => s _ _ hx) (fun D i x H1 H2 Q' hi hD ho hz hy k => by obtain ⟨rfl, k', e⟩ := hy; exact hs D i k' x _ Q' e hD ho hz k) hd
theorem pmS_K {kvs : List (Key × V)} {o : Obj} (R : Nat → V → Hp → Prop) (hR : MonR R) (hn : kvs.length ≤ 1000000) (hx : H d = some (.frz o (.dK kvs)))
    (hs : ∀ D i k x H1 (Q' : VK), kvs[i]? = some (k, x) → H D = none → (∃ o, H1 D = some o) → Same H H1 → StS D H H1 (R i) Q' →
      g (kV k) (wipe σ vs) H1 fun σ2 H3 => wipe σ2 vs = wipe σ vs ∧ te σ2 H3 Q')
    (hd : DnS H kvs.length R Q) : LcGo g tYes te vs σ Q (Itk d o kvs) H :=
  pmS_go walk_keys hn R hR (fun H' s => s _ _ hx) (fun D i x H1 H2 Q' hi hD ho hz hy k => by obtain ⟨rfl, k', u, e, rfl⟩ := hy; exact hs D i k' u _ Q' e hD ho hz k) hd
theorem pmS_I {kvs : List (Key × V)} {o : Obj} (R : Nat → V → Hp → Prop) (hR : MonR R) (hn : kvs.length ≤ 1000000) (hx : H d = some (.frz o (.dK kvs)))
    (hs : ∀ D i k x H1 q (Q' : VK), kvs[i]? = some (k, x) → H D = none → (∃ o, H1 D = some o) → Same H H1 → H1 q = none → StS D H H1 (R i) Q' →
      g (.ref q) (wipe σ vs) (upd H1 q (.tup [kV k, x])) fun σ2 H3 => wipe σ2 vs = wipe σ vs ∧ te σ2 H3 Q')
    (hd : DnS H kvs.length R Q) : LcGo g tYes te vs σ Q (Iti d o kvs) H :=
  pmS_go walk_items hn R hR (fun H' s => s _ _ hx) (fun D i x H1 H2 Q' hi hD ho hz hy k => by
    obtain ⟨q, u, v, rfl, hq, rfl, h1, h2⟩ := hy
    obtain ⟨⟨k', w⟩, e⟩ : ∃ kw, kvs[i]? = some kw := ⟨kvs[i], by simp [hi]⟩
    have h1 : (kvs[i]?.map fun kv => kV kv.1) = some u := h1
    have h2 : kvs[i]?.map Prod.snd = some v := h2
    rw [e] at h1 h2
    cases h1
    cases h2
    exact hs D i k' _ _ q Q' e hD ho hz hq k) hd
theorem pmS_Z (xs ys : List V) (n : Nat) (hm : n = min xs.length ys.length) (R : Nat → V → Hp → Prop) (hR : MonR R) (hn : n ≤ 1000000) (hx : SqL K H a xs) (hy : SqL K H b ys)
    (hs : ∀ D i x y H1 q (Q' : VK), xs[i]? = some x → ys[i]? = some y → H D = none → (∃ o, H1 D = some o) → Same H H1 → H1 q = none → StS D H H1 (R i) Q' →
      g (.ref q) (wipe σ vs) (upd H1 q (.tup [x, y])) fun σ2 H3 => wipe σ2 vs = wipe σ vs ∧ te σ2 H3 Q')
    (hd : DnS H n R Q) : LcGo g tYes te vs σ Q (Itz K a b) H :=
  pmS_go (walk_zip (xs := xs) (ys := ys) hm) hn R hR (fun H' s => ⟨s.seq hx, s.seq hy⟩) (fun D i x H1 H2 Q' hi hD ho hz hy k => by
    obtain ⟨q, u, v, rfl, hq, rfl, h1, h2⟩ := hy; exact hs D i u v _ q Q' h1 h2 hD ho hz hq k) hd
theorem pmD_L (xs : List V) (R : Nat → V → Hp → Prop) (hR : MonR R) (hsrc : Src H a la) (hn : xs.length ≤ 1000000) (ne : b ≠ a) (hx : SqL K H b xs)
    (hs : ∀ D i x H1 (Q' : VK), xs[i]? = some x → H D = none → (∃ o, H1 D = some o) → Kp a H H1 → Src H1 a la → StD a la D H1 (R i) Q' →
      g x (wipe σ vs) H1 fun σ2 H3 => wipe σ2 vs = wipe σ vs ∧ te σ2 H3 Q')
    (hd : DnD a la H xs.length R Q) : LcGo g tYes te vs σ Q (Itl K b) H :=
  pmD_go (walk_list (xs := xs)) hn hsrc R hR (fun H' s _ => s.seq ne hx) (fun D i x H1 H2 Q' hi hD ho hz hz2 hy k => by obtain ⟨rfl, e⟩ := hy; exact hs D i x _ Q' e hD ho hz hz2 k) hd
theorem pmD_T (xs : List V) (R : Nat → V → Hp → Prop) (hR : MonR R) (hsrc : Src H a la) (hn : xs.length ≤ 1000000) (ne : b ≠ a) (hx : SqT K H b xs)
    (hs : ∀ D i x H1 (Q' : VK), xs[i]? = some x → H D = none → (∃ o, H1 D = some o) → Kp a H H1 → Src H1 a la → StD a la D H1 (R i) Q' →
      g x (wipe σ vs) H1 fun σ2 H3 => wipe σ2 vs = wipe σ vs ∧ te σ2 H3 Q')
    (hd : DnD a la H xs.length R Q) : LcGo g tYes te vs σ Q (Itt K b) H :=
  pmD_go (walk_tup (xs := xs)) hn hsrc R hR (fun H' s _ => s.seqT ne hx) (fun D i x H1 H2 Q' hi hD ho hz hz2 hy k => by obtain ⟨rfl, e⟩ := hy; exact hs D i x _ Q' e hD ho hz hz2 k) hd
theorem pmD_R (lo : Int) (n : Nat) (R : Nat → V → Hp → Prop) (hR : MonR R) (hsrc : Src H a la) (hn : n ≤ 1000000)
    (hs : ∀ D i H1 (Q' : VK), i < n → H D = none → (∃ o, H1 D = some o) → Kp a H H1 → Src H1 a la → StD a la D H1 (R i) Q' →
      g (V.int (lo + (i : Nat))) (wipe σ vs) H1 fun σ2 H3 => wipe σ2 vs = wipe σ vs ∧ te σ2 H3 Q')
    (hd : DnD a la H n R Q) : LcGo g tYes te vs σ Q (Itr lo n) H :=
  pmD_go (walk_range (lo := lo) (n := n)) hn hsrc R hR (fun _ _ _ => trivial) (fun D i x H1 H2 Q' hi hD ho hz hz2 hy k => by obtain ⟨rfl, rfl⟩ := hy; exact hs D i _ Q' hi hD ho hz hz2 k) hd
/-- the items told one by one are a map -/
theorem ys_map {α : Type} {ys : List V} (l : List α) (f : α → V) (hl : ys.length = l.length) (h : ∀ (i : Nat) (y : V), ys[i]? = some y → ∃ x : α, l[i]? = some x ∧ y = f x) : ys = l.map f := by
  refine List.ext_getElem? fun i => ?_
  rw [List.getElem?_map]
  cases e : ys[i]? with
  | none =>
    have h1 := List.getElem?_eq_none_iff.mp e
    rw [List.getElem?_eq_none (by omega)]
    rfl
  | some y =>
    obtain ⟨x, ex, rfl⟩ := h i y e
    rw [ex]
    rfl
end
theorem r_listD {H : Hp} {Q : VK} {a : Addr} {kvs : List (Key × V)} (h : H a = some (.dK kvs)) (q : ∀ p, H p = none → Q (.ref p) (upd H p (.lst (kvs.map fun kv => kV kv.1)))) :
    rListD [.ref a] H Q := ⟨a, kvs, rfl, h, q⟩
theorem dp_all_of {K : PySem.W.Frag} {H : Hp} {ds : List PyData} : ∀ {vs : List V}, vs.length = ds.length →
    (∀ (i : Nat) (v : V), vs[i]? = some v → ∃ d : PyData, ds[i]? = some d ∧ Dp K H v d) → DpAll K H vs ds := by
  induction ds with
  | nil =>
    intro vs hl _
    cases vs with
    | nil => exact .nil
    | cons v vs => cases hl
  | cons d ds ih =>
    intro vs hl h
    cases vs with
    | nil => cases hl
    | cons v vs =>
      obtain ⟨d', e, hd⟩ := h 0 v rfl
      cases e
      exact .cons hd (ih (Nat.succ.inj hl) fun i u hu => h (i + 1) u hu)
theorem hid_upd_self {H : Hp} {d : Addr} {o : HO} : hid d (upd H d o) = hid d H := by
  funext c
  unfold hid
  by_cases e : c = d
  · rw [if_pos e, if_pos e]
  · rw [if_neg e, if_neg e, upd_ne e]
theorem sqT_hid {K : PySem.W.Frag} {H : Hp} {d a : Addr} {o : HO} {xs : List V} (h : H d = some o) (n1 : ∀ ys, o ≠ .tup ys) (n2 : ∀ ob u, o ≠ .frz ob u)
    (hs : SqT K H a xs) : SqT K (hid d H) a xs := by
  rcases hs with (hs | ⟨ob, hs⟩) | hs
  · exact .inl (.inl ((hid_at (ne_of hs h fun e => n1 _ e.symm)).trans hs))
  · exact .inl (.inr ⟨ob, (hid_at (ne_of hs h fun e => n2 _ _ e.symm)).trans hs⟩)
  · exact .inr hs
theorem same_hid0 {H H' : Hp} {D : Addr} (hD : H D = none) (s : Same H H') : Same H (hid D H') := fun b o e => by
  rw [hid_at (ne_of_none e hD)]
  exact s b o e
theorem unhid {H : Hp} {d : Addr} {o : HO} : Same (hid d H) (upd H d o) := fun b u e => by
  by_cases h : b = d
  · subst h
    rw [hid_self] at e
    cases e
  · rw [hid_at h] at e
    rw [upd_ne h]
    exact e
section
variable {K : PySem.W.Frag} {H : Hp} {a C dx : Addr} {fs : List (Str × V)} {D : Ends} {σ : L2.St}
theorem r_sfldA {S : Addr → Addr → Addr → List (Str × V) → Prop} {f : Str} (ho : H a = some (.ins C dx fs)) (hc : Cls K C) (hn : NoAttr K C f) (hl : fs.length < 1000)
    (q : S a C dx fs) : ∃ b C dx fs, V.ref a = .ref b ∧ H b = some (.ins C dx fs) ∧ Cls K C ∧ NoAttr K C f ∧ fs.length < 1000 ∧ S b C dx fs :=
  ⟨a, C, dx, fs, rfl, ho, hc, hn, hl, q⟩
theorem r_lock {t : TS} {d : Addr} {o : HO} (h : H d = some o) (mu : Mut (some o)) (q : ∀ od, t ⟨fun σ' H' => H' d = some (.frz od o) ∧ D.nx σ' (upd H' d o), fun v H' => H' d = some (.frz od o) ∧ D.rt v (upd H' d o),
    fun σ' H' => H' d = some (.frz od o) ∧ D.bk σ' (upd H' d o), fun σ' H' => H' d = some (.frz od o) ∧ D.ct σ' (upd H' d o)⟩ σ (upd H d (.frz od o))) : tLock t D σ H := ⟨d, o, h, mu, q⟩
end
end GX

set_option Elab.async false
set_option linter.all false
set_option maxRecDepth 100000
set_option maxHeartbeats 4000000
namespace GX
open PySem L2 PySem.Spec
theorem len_le_of_sub {α : Type} [DecidableEq α] : ∀ {l m : List α}, l.Nodup → (∀ x ∈ l, x ∈ m) → l.length ≤ m.length := by
  intro l
  induction l with
  | nil => intro m _ _; exact Nat.zero_le _
  | cons a l ih =>
    intro m nd h
    rw [List.nodup_cons] at nd
    have hm := h a (List.mem_cons_self ..)
    have h2 : ∀ x ∈ l, x ∈ m.erase a := fun x hx => by
      have ne : x ≠ a := fun e => nd.1 (e ▸ hx)
      exact (List.mem_erase_of_ne ne).mpr (h x (List.mem_cons_of_mem _ hx))
    have := ih nd.2 h2
    rw [List.length_erase_of_mem hm] at this
    have hp := List.length_pos_of_mem hm
    rw [List.length_cons]
    omega
theorem Fint.subset {ts us : List Trip} (h : ∀ t ∈ ts, t ∈ us) : ∀ {k : Str}, Fint ts k → Fint us k := by
  intro k f
  induction f with
  | mk ht _ ih => exact .mk (h _ ht) ih
theorem Good.perm {nm : Str → Bool} {ts us : List Trip} (h : Good nm ts) (p : us.Perm ts) : Good nm us := by
  have sub : ∀ t ∈ us, t ∈ ts := fun t ht => p.mem_iff.mp ht
  have sub' : ∀ t ∈ ts, t ∈ us := fun t ht => p.mem_iff.mpr ht
  have kk : ∀ k, k ∈ kindsOf us ↔ k ∈ kindsOf ts := fun k => by
    rw [mem_kindsOf, mem_kindsOf]
    constructor
    · rintro ⟨t, h1, h2⟩
      exact ⟨t, sub t h1, h2⟩
    · rintro ⟨t, h1, h2⟩
      exact ⟨t, sub' t h1, h2⟩
  refine ⟨fun t ht => h.names t (sub t ht), (p.map _).nodup_iff.mpr h.nd, ?_, ?_, fun t ht => h.parts t (sub t ht), ?_, ?_, p.length_eq ▸ h.few, fun t ht => h.short t (sub t ht)⟩
  · exact Nat.le_trans (len_le_of_sub (nodup_kindsOf us) fun k hk => (kk k).mp hk) h.kinds
  · intro k hk
    have e : (consOf us k).length = (consOf ts k).length := by
      unfold consOf
      rw [List.length_map, List.length_map]
      exact (p.filter _).length_eq
    rw [e]
    exact h.cons k ((kk k).mp hk)
  · intro t ht q hq
    exact (kk q).mpr (h.known t (sub t ht) q hq)
  · intro k hk
    exact (h.fin k ((kk k).mp hk)).subset sub'
/-- triples drawn: a first one for each kind, whose parts are of the kinds before it, and more -/
structure DrawnT (names kinds : List Str) (ts1 more : List Trip) : Prop where
  cons : (ts1 ++ more).map (·.1) = (names.drop kinds.length).take (ts1 ++ more).length
  firsts : ts1.map (·.2.1) = kinds
  lower : ∀ (j : Nat) (t : Trip), ts1[j]? = some t → (∀ p ∈ t.2.2, p ∈ kinds.take j) ∧ t.2.2.length ≤ 3
  more : ∀ t ∈ more, t.2.1 ∈ kinds ∧ (∀ p ∈ t.2.2, p ∈ kinds) ∧ t.2.2.length ≤ 3
theorem count_firsts {kinds : List Str} (nd : kinds.Nodup) : ∀ {ts1 : List Trip}, ts1.map (·.2.1) = kinds → ∀ k, (consOf ts1 k).length ≤ 1 := by
  induction kinds with
  | nil =>
    intro ts1 e k
    rw [List.map_eq_nil_iff] at e
    rw [e]
    exact Nat.zero_le _
  | cons a l ih =>
    intro ts1 e k
    rw [List.nodup_cons] at nd
    cases ts1 with
    | nil => cases e
    | cons t ts1 =>
      rw [List.map_cons] at e
      obtain ⟨e1, e2⟩ := List.cons.inj e
      have h := ih nd.2 e2 k
      unfold consOf at h ⊢
      rw [List.filter_cons]
      by_cases ek : t.2.1 = k
      · rw [if_pos (decide_eq_true ek)]
        have z : ts1.filter (fun t => decide (t.2.1 = k)) = [] := by
          rw [List.filter_eq_nil_iff]
          intro u hu eu
          have := of_decide_eq_true eu
          refine nd.1 ?_
          rw [← e1, ek, ← this, ← e2]
          exact List.mem_map_of_mem hu
        rw [z]
        exact Nat.le_refl _
      · rw [if_neg (by simp [ek])]
        exact h
theorem DrawnT.good {nm : Str → Bool} {names kinds : List Str} {ts1 more : List Trip} (h : DrawnT names kinds ts1 more) (nd : names.Nodup)
    (hn : ∀ z ∈ names, nm z = true ∧ z.length ≤ 8) (hk : ∀ z ∈ kinds, z ∈ names) (ndk : kinds.Nodup) (k4 : kinds.length ≤ 4) (m5 : more.length ≤ 5) :
    Good nm (ts1 ++ more) := by
  have l1 : ts1.length = kinds.length := by rw [← h.firsts, List.length_map]
  have kin : ∀ t ∈ ts1 ++ more, t.2.1 ∈ kinds := fun t ht => by
    rcases List.mem_append.mp ht with q | q
    · rw [← h.firsts]
      exact List.mem_map_of_mem q
    · exact (h.more t q).1
  have cin : ∀ t ∈ ts1 ++ more, t.1 ∈ names := fun t ht => by
    have q : t.1 ∈ (ts1 ++ more).map (·.1) := List.mem_map_of_mem ht
    rw [h.cons] at q
    exact List.mem_of_mem_drop (List.mem_of_mem_take q)
  have known : ∀ k ∈ kinds, k ∈ kindsOf (ts1 ++ more) := fun k hk => by
    rw [← h.firsts] at hk
    obtain ⟨t, h1, h2⟩ := List.mem_map.mp hk
    exact (mem_kindsOf _ _).mpr ⟨t, List.mem_append_left _ h1, h2⟩
  have kin2 : ∀ k ∈ kindsOf (ts1 ++ more), k ∈ kinds := fun k hk => by
    obtain ⟨t, h1, rfl⟩ := (mem_kindsOf _ _).mp hk
    exact kin t h1
  refine ⟨fun t ht => ⟨(hn _ (cin t ht)).1, (hn _ (hk _ (kin t ht))).1⟩, ?_, ?_, ?_, ?_, ?_, ?_, ?_, ?_⟩
  · rw [h.cons]
    exact (nd.sublist (List.drop_sublist _ _)).sublist (List.take_sublist _ _)
  · exact Nat.le_trans (len_le_of_sub (nodup_kindsOf _) kin2) k4
  · intro k _
    have e : (consOf (ts1 ++ more) k).length = (consOf ts1 k).length + (consOf more k).length := by
      unfold consOf
      rw [List.filter_append, List.map_append, List.length_append]
    have h1 := count_firsts ndk h.firsts k
    have h2 : (consOf more k).length ≤ more.length := by
      unfold consOf
      rw [List.length_map]
      exact List.length_filter_le _ _
    omega
  · intro t ht
    rcases List.mem_append.mp ht with q | q
    · obtain ⟨j, hj⟩ := List.getElem?_of_mem q
      exact (h.lower j t hj).2
    · exact (h.more t q).2.2
  · intro t ht p hp
    refine known p ?_
    rcases List.mem_append.mp ht with q | q
    · obtain ⟨j, hj⟩ := List.getElem?_of_mem q
      exact List.mem_of_mem_take ((h.lower j t hj).1 p hp)
    · exact (h.more t q).2.1 p hp
  · have all : ∀ n, ∀ k ∈ kinds.take n, Fint (ts1 ++ more) k := by
      intro n
      induction n with
      | zero => intro k hk; cases hk
      | succ n ih =>
        intro k hk
        rw [List.take_succ] at hk
        rcases List.mem_append.mp hk with q | q
        · exact ih k q
        · have e : kinds[n]? = some k := by simpa using q
          rw [← h.firsts, List.getElem?_map] at e
          cases et : ts1[n]? with
          | none => rw [et] at e; cases e
          | some t =>
            rw [et] at e
            have e : t.2.1 = k := Option.some.inj e
            rw [← e]
            exact .mk (List.mem_append_left _ (List.mem_of_getElem? et)) fun p hp => ih p ((h.lower n t et).1 p hp)
    intro k hk
    refine all kinds.length k ?_
    rw [List.take_of_length_le (Nat.le_refl _)]
    exact kin2 k hk
  · rw [List.length_append]
    omega
  · intro t ht
    have h1 := (hn _ (cin t ht)).2
    have h2 := (hn _ (hk _ (kin t ht))).2
    omega
theorem kp_le2 {a f : Addr} {H H' : Hp} (k : Kp a H H') : Same (hid a (hid f H)) (hid a (hid f H')) := fun b o e => by
  by_cases h : b = a
  · subst h
    rw [hid_self] at e
    cases e
  · rw [hid_at h] at e ⊢
    by_cases h2 : b = f
    · subst h2
      rw [hid_self] at e
      cases e
    · rw [hid_at h2] at e ⊢
      exact k b o e h
theorem dp_all_perm {K : PySem.W.Frag} {H : Hp} {ys xs : List V} (h : ys.Perm xs) : ∀ {ds : List PyData}, DpAll K H xs ds → ∃ es, es.Perm ds ∧ DpAll K H ys es := by
  induction h with
  | nil =>
    intro ds h
    exact ⟨ds, List.Perm.refl _, h⟩
  | cons x _ ih =>
    intro ds h
    cases h with
    | cons h1 h2 =>
      obtain ⟨es, p, q⟩ := ih h2
      exact ⟨_ :: es, p.cons _, .cons h1 q⟩
  | swap x y _ =>
    intro ds h
    cases h with
    | cons h1 h2 =>
      cases h2 with
      | cons h2 h3 => exact ⟨_ :: _ :: _, List.Perm.swap _ _ _, .cons h2 (.cons h1 h3)⟩
  | trans _ _ ih1 ih2 =>
    intro ds h
    obtain ⟨es, p, q⟩ := ih2 h
    obtain ⟨es', p', q'⟩ := ih1 q
    exact ⟨es', p'.trans p, q'⟩
theorem r_min2 {R : Int → Int → Prop} {i j : Int} (q : R i j) : ∃ i' j', [V.int i, V.int j] = [.int i', .int j'] ∧ R i' j' := ⟨i, j, rfl, q⟩
theorem atI_eq {α : Type} {xs : List α} {n : Nat} {i : Int} {v : α} (e : xs[n]? = some v) (h : i = (n : Int)) : atI xs i = some v := by
  rw [h]
  exact atI_nat e
theorem get_map {α β : Type} {l : List α} {f : α → β} {i : Nat} {x : β} (h : (l.map f)[i]? = some x) : ∃ a, l[i]? = some a ∧ f a = x := by
  rw [List.getElem?_map] at h
  cases e : l[i]? with
  | none => rw [e] at h; cases h
  | some a => rw [e] at h; exact ⟨a, rfl, Option.some.inj h⟩
/-- the items told one by one are of a kind -/
theorem ys_strs {ys : List V} {p : Nat → Str → Prop} (h : ∀ (i : Nat) (y : V), ys[i]? = some y → ∃ z : Str, p i z ∧ y = .str z) :
    ∃ zs : List Str, ys = zs.map V.str ∧ ∀ (i : Nat) (z : Str), zs[i]? = some z → p i z := by
  induction ys generalizing p with
  | nil => exact ⟨[], rfl, fun i z e => by cases e⟩
  | cons y ys ih =>
    obtain ⟨z, hz, rfl⟩ := h 0 y rfl
    obtain ⟨zs, rfl, q⟩ := ih (p := fun i => p (i + 1)) fun i y e => h (i + 1) y e
    refine ⟨z :: zs, rfl, fun i u e => ?_⟩
    cases i with
    | zero => cases e; exact hz
    | succ i => exact q i u e
/-- a comprehension in a comprehension: its scope's parent -/
def relabelS (scope psc : Scope) : Scope :=
  { scope with names := scope.names.map fun (n, k) => if (k == .free && psc.kind == .function && psc.names.lookup n == some .cell) then (n, .cell) else (n, k) }
theorem blk_nest {N : List Str} {scope sc psc : Scope} {own : List (Str × Nat)} {env : Env} (hp : env.scope = psc) (h : blkC N (relabelS sc psc) scope own = true) :
    BlkOk N (relabel sc env) scope own := by
  subst hp
  exact blkOk_by h
end GX

set_option Elab.async false
set_option linter.all false
set_option maxRecDepth 100000
set_option maxHeartbeats 4000000
namespace GX
open PySem L2 PySem.Spec
/-- the heap without some places -/
def hidL (as : List Addr) (H : Hp) : Hp := as.foldr hid H
def KpL (as : List Addr) (H H' : Hp) : Prop := ∀ b o, H b = some o → b ∉ as → H' b = some o
theorem hidL_at {as : List Addr} {H : Hp} {b : Addr} (h : b ∉ as) : hidL as H b = H b := by
  induction as with
  | nil => rfl
  | cons a as ih =>
    rw [List.mem_cons, not_or] at h
    show hid a (hidL as H) b = H b
    rw [hid_at h.1, ih h.2]
theorem hidL_in {as : List Addr} {H : Hp} {b : Addr} (h : b ∈ as) : hidL as H b = none := by
  induction as with
  | nil => cases h
  | cons a as ih =>
    show hid a (hidL as H) b = none
    by_cases e : b = a
    · subst e
      exact hid_self
    · rw [hid_at e]
      exact ih ((List.mem_cons.mp h).resolve_left e)
theorem KpL.refl (as : List Addr) (H : Hp) : KpL as H H := fun _ _ e _ => e
theorem KpL.trans {as : List Addr} {H H1 H2 : Hp} (p : KpL as H H1) (q : KpL as H1 H2) : KpL as H H2 := fun b o e h => q b o (p b o e h) h
theorem KpL.le {as : List Addr} {H H' : Hp} (k : KpL as H H') : Same (hidL as H) (hidL as H') := fun b o e => by
  by_cases h : b ∈ as
  · rw [hidL_in h] at e
    cases e
  · rw [hidL_at h] at e ⊢
    exact k b o e h
theorem hidL_le {as : List Addr} {H : Hp} : Same (hidL as H) H := fun b o e => by
  by_cases h : b ∈ as
  · rw [hidL_in h] at e
    cases e
  · rw [hidL_at h] at e
    exact e
theorem Same.kpl {as : List Addr} {H H' : Hp} (s : Same H H') : KpL as H H' := fun b o e _ => s b o e
theorem Kp.kpl {a : Addr} {as : List Addr} {H H' : Hp} (k : Kp a H H') (h : a ∈ as) : KpL as H H' := fun b o e n => k b o e fun q => n (q ▸ h)
theorem KpL.new {as : List Addr} {p : Addr} {H H' : Hp} {o : HO} (q : KpL as H H') (h : H' p = none) : KpL as H (upd H' p o) := fun b u e n => by
  have z := q b u e n
  rw [upd_ne (ne_of_none z h)]
  exact z
theorem KpL.put {as : List Addr} {p : Addr} {H H' : Hp} {o : HO} (q : KpL as H H') (h : p ∈ as) : KpL as H (upd H' p o) := fun b u e n => by
  have ne : b ≠ p := fun z => n (by rw [z]; exact h)
  rw [upd_ne ne]
  exact q b u e n
/-- fewer places hidden -/
theorem hidL_sub {as bs : List Addr} {H : Hp} (h : ∀ b ∈ bs, b ∈ as) : Same (hidL as H) (hidL bs H) := fun b o e => by
  by_cases h1 : b ∈ as
  · rw [hidL_in h1] at e
    cases e
  · rw [hidL_at h1] at e
    rw [hidL_at fun q => h1 (h b q)]
    exact e
/-- all hidden that was not there: nothing lost -/
theorem same_hidL {as bs : List Addr} {H H' : Hp} (k : KpL as H H') (h : ∀ b ∈ bs, b ∈ as ∨ H b = none) : Same (hidL as H) (hidL bs H') := fun b o e => by
  by_cases h1 : b ∈ as
  · rw [hidL_in h1] at e
    cases e
  · rw [hidL_at h1] at e
    rw [hidL_at fun q => (h b q).elim h1 fun z => by rw [z] at e; cases e]
    exact k b o e h1
/-! ### steps, as plain data -/
abbrev GStep := Str × List Nat
abbrev sdata (s : GStep) : PyData := .tuple [.str s.1, .tuple (s.2.map fun i : Nat => .int (i : Int))]
/-- steps of a signature and the kinds of their trees -/
inductive StepsOk (ts : List Trip) : List GStep → List Str → Prop
  | nil : StepsOk ts [] []
  | snoc {ss : List GStep} {ks : List Str} {t : Trip} {is : List Nat} : StepsOk ts ss ks → t ∈ ts → is.length = t.2.2.length →
      (∀ (j : Nat) (p : Str), t.2.2[j]? = some p → ∃ i : Nat, is[j]? = some i ∧ ks[i]? = some p) → StepsOk ts (ss ++ [(t.1, is)]) (ks ++ [t.2.1])
theorem StepsOk.len {ts : List Trip} {ss : List GStep} {ks : List Str} (h : StepsOk ts ss ks) : ss.length = ks.length := by
  induction h with
  | nil => rfl
  | snoc _ _ _ _ ih => rw [List.length_append, List.length_append, ih]; rfl
/-- where a kind has a finite tree, some constructor has no parts -/
theorem Fint.leaf {ts : List Trip} {k : Str} (h : Fint ts k) : ∃ t ∈ ts, t.2.2 = [] := by
  induction h with
  | @mk t ht hp ih =>
    cases e : t.2.2 with
    | nil => exact ⟨t, ht, e⟩
    | cons p r => exact ih p (by rw [e]; exact List.mem_cons_self ..)
theorem Good.leaf {nm : Str → Bool} {ts : List Trip} (h : Good nm ts) (ne : ts ≠ []) : ∃ t ∈ ts, t.2.2 = [] := by
  cases ts with
  | nil => exact absurd rfl ne
  | cons t r => exact (h.fin t.2.1 ((mem_kindsOf _ _).mpr ⟨t, List.mem_cons_self .., rfl⟩)).leaf
theorem dp_step {K : PySem.W.Frag} {H : Hp} {p q : Addr} {c : Str} {is : List Nat} (h1 : SqT K H p [.str c, .ref q]) (h2 : SqT K H q (is.map fun i : Nat => V.int (i : Int))) :
    Dp K H (.ref p) (sdata (c, is)) := by
  refine .tup h1 (.cons (.str _) (.cons (.tup h2 ?_) .nil))
  have := dp_ints (K := K) (H := H) (is.map fun i : Nat => (i : Int))
  rw [List.map_map, List.map_map] at this
  exact this
/-- a step read -/
theorem dp_step_inv {K : PySem.W.Frag} {H : Hp} {v : V} {s : GStep} (h : Dp K H v (sdata s)) : ∃ p q, v = .ref p ∧ SqT K H p [.str s.1, .ref q] ∧ SqT K H q (s.2.map fun i : Nat => V.int (i : Int)) := by
  obtain ⟨p, xs, rfl, hs, ha⟩ := dp_tup h
  cases ha with
  | cons a1 a2 =>
    cases a1
    cases a2 with
    | cons b1 b2 =>
      cases b2
      obtain ⟨q, zs, rfl, hz, hb⟩ := dp_tup b1
      have e : s.2.map (fun i : Nat => PyData.int (i : Int)) = (s.2.map fun i : Nat => (i : Int)).map PyData.int := by rw [List.map_map]; rfl
      rw [e] at hb
      rw [dp_ints_inv hb, List.map_map] at hz
      exact ⟨p, q, rfl, hs, hz⟩
theorem ys_of {α : Type} (f : α → V) {ys : List V} {p : Nat → α → Prop} (h : ∀ (i : Nat) (y : V), ys[i]? = some y → ∃ z : α, p i z ∧ y = f z) :
    ∃ zs : List α, ys = zs.map f ∧ ∀ (i : Nat) (z : α), zs[i]? = some z → p i z := by
  induction ys generalizing p with
  | nil => exact ⟨[], rfl, fun i z e => by cases e⟩
  | cons y ys ih =>
    obtain ⟨z, hz, rfl⟩ := h 0 y rfl
    obtain ⟨zs, rfl, q⟩ := ih (p := fun i => p (i + 1)) fun i y e => h (i + 1) y e
    refine ⟨z :: zs, rfl, fun i u e => ?_⟩
    cases i with
    | zero => cases e; exact hz
    | succ i => exact q i u e
theorem pmD_Th {K : PySem.W.Frag} {σ : L2.St} {H : Hp} {Q : VK} {te : TE} {g : TG} {a la b : Addr} {vs : List Nat} (xs : List V) (R : Nat → V → Hp → Prop) (hR : MonR R) (hsrc : Src H a la)
    (hn : xs.length ≤ 1000000) (hx : SqT K (hid a H) b xs)
    (hs : ∀ D i x H1 (Q' : VK), xs[i]? = some x → H D = none → (∃ o, H1 D = some o) → Kp a H H1 → Src H1 a la → StD a la D H1 (R i) Q' →
      g x (wipe σ vs) H1 fun σ2 H3 => wipe σ2 vs = wipe σ vs ∧ te σ2 H3 Q')
    (hd : DnD a la H xs.length R Q) : LcGo g tYes te vs σ Q (Itt K b) H :=
  pmD_go (walk_tup (xs := xs)) hn hsrc R hR (fun H' s _ => Same.seqT (s.le.trans hid_le) hx) (fun D i x H1 H2 Q' hi hD ho hz hz2 hy k => by obtain ⟨rfl, e⟩ := hy; exact hs D i x _ Q' e hD ho hz hz2 k) hd
theorem StepsOk.get {ts : List Trip} {ss : List GStep} {ks : List Str} (h : StepsOk ts ss ks) : ∀ {n : Nat} {s : GStep}, ss[n]? = some s →
    ∃ t ∈ ts, s.1 = t.1 ∧ s.2.length = t.2.2.length ∧ ks[n]? = some t.2.1 ∧ ∀ (j : Nat) (p : Str), t.2.2[j]? = some p → ∃ i : Nat, s.2[j]? = some i ∧ i < n ∧ ks[i]? = some p := by
  induction h with
  | nil => intro n s e; cases e
  | @snoc ss ks t is h tm hl hp ih =>
    intro n s e
    have el := h.len
    by_cases hn : n < ss.length
    · rw [List.getElem?_append_left hn] at e
      obtain ⟨u, um, h1, h2, h3, h4⟩ := ih e
      refine ⟨u, um, h1, h2, by rw [List.getElem?_append_left (by omega)]; exact h3, fun j p hj => ?_⟩
      obtain ⟨i, g1, g2, g3⟩ := h4 j p hj
      exact ⟨i, g1, g2, by rw [List.getElem?_append_left (by omega)]; exact g3⟩
    · rw [List.getElem?_append_right (by omega)] at e
      have e0 : n = ss.length := by
        cases ez : n - ss.length with
        | zero => omega
        | succ m => rw [ez] at e; cases e
      subst e0
      rw [Nat.sub_self] at e
      cases e
      refine ⟨t, tm, rfl, hl, by rw [el, List.getElem?_append_right (Nat.le_refl _), Nat.sub_self]; rfl, fun j p hj => ?_⟩
      obtain ⟨i, g1, g2⟩ := hp j p hj
      have hi := (List.getElem?_eq_some_iff.mp g2).1
      exact ⟨i, g1, by omega, by rw [List.getElem?_append_left hi]; exact g2⟩
theorem StepsOk.lt {ts : List Trip} {ss : List GStep} {ks : List Str} (h : StepsOk ts ss ks) {n : Nat} {s : GStep} (e : ss[n]? = some s) : ∀ i ∈ s.2, i < n := by
  obtain ⟨t, _, _, h2, _, h4⟩ := h.get e
  intro i hi
  obtain ⟨j, hj⟩ := List.getElem?_of_mem hi
  have hj2 := (List.getElem?_eq_some_iff.mp hj).1
  obtain ⟨i', g1, g2, _⟩ := h4 j t.2.2[j] (List.getElem?_eq_getElem (by omega))
  rw [hj] at g1
  cases g1
  exact g2
/-- the tree of a step, with fuel -/
def treeF (ss : List GStep) : Nat → Nat → PyData
  | 0, _ => .none
  | d + 1, i => match ss[i]? with
    | none => .none
    | some s => .tuple (.str s.1 :: s.2.map (treeF ss d))
theorem r_catT {K : PySem.W.Frag} {H : Hp} {Q : VK} {a b : Addr} {xs ys : List V} (h1 : SqT K H a xs) (h2 : SqT K H b ys) (hne : xs ≠ []) (hl : xs.length + ys.length ≤ 1000000)
    (q : ∀ p H', Same H H' → SqT K H' p (xs ++ ys) → (H p = none ∨ p = a) → Q (.ref p) H') : rCatT K (.ref a) (.ref b) H Q :=
  ⟨a, b, xs, ys, rfl, rfl, h1, h2, hne, Nat.le_trans hl (by decide), fun e => q a H (Same.refl H) (by rw [e, List.append_nil]; exact h1) (.inr rfl), fun _ p np => q p _ (Same.new np) (.of upd_same) (.inl np)⟩
theorem sqT_hidL {K : PySem.W.Frag} {H : Hp} {as : List Addr} {p : Addr} {xs : List V} (h : SqT K H p xs) (n : p ∉ as) : SqT K (hidL as H) p xs := by
  rcases h with (h | ⟨o, h⟩) | h
  · exact .inl (.inl ((hidL_at n).trans h))
  · exact .inl (.inr ⟨o, (hidL_at n).trans h⟩)
  · exact .inr h
theorem hidL_comm {D : Addr} {as : List Addr} {H : Hp} : Same (hidL (D :: as) H) (hidL as (hid D H)) := fun b o e => by
  by_cases h : b ∈ D :: as
  · rw [hidL_in h] at e
    cases e
  · rw [hidL_at h] at e
    rw [List.mem_cons, not_or] at h
    rw [hidL_at h.2, hid_at h.1]
    exact e
/-- all of these stand -/
def Occ (H : Hp) (as : List Addr) : Prop := ∀ b ∈ as, ∃ o, H b = some o
theorem Occ.mono {H H' : Hp} {as : List Addr} (h : Occ H as) (s : Same H H') : Occ H' as := fun b hb => by
  obtain ⟨o, e⟩ := h b hb
  exact ⟨o, s _ _ e⟩
theorem Occ.nin {H : Hp} {as : List Addr} {p : Addr} (h : Occ H as) (n : H p = none) : p ∉ as := fun hp => by
  obtain ⟨o, e⟩ := h p hp
  rw [n] at e
  cases e
/-- the number of nodes of the tree of each step -/
def addSize (acc : List Nat) (s : GStep) : List Nat := acc ++ [1 + (s.2.map fun i => acc.getD i 0).sum]
def sizesOf (ss : List GStep) : List Nat := ss.foldl addSize []
theorem sizesOf_app (ss : List GStep) (s : GStep) : sizesOf (ss ++ [s]) = addSize (sizesOf ss) s := by
  unfold sizesOf
  rw [List.foldl_append]
  rfl
theorem sizesOf_len (ss : List GStep) : (sizesOf ss).length = ss.length := by
  revert ss
  refine snoc_ind rfl ?_
  intro ss s ih
  rw [sizesOf_app]
  unfold addSize
  rw [List.length_append, List.length_append, ih]
  rfl
abbrev vints (l : List Nat) : List V := l.map fun n : Nat => V.int (n : Int)
theorem vints_sum (l : List Nat) : (l.map fun n : Nat => (n : Int)).sum = ((l.sum : Nat) : Int) := by
  induction l with
  | nil => rfl
  | cons a l ih =>
    rw [List.map_cons, List.sum_cons, List.sum_cons, ih]
    omega
theorem vints_eq (l : List Nat) : vints l = (l.map fun n : Nat => (n : Int)).map V.int := by
  rw [List.map_map]
  rfl
theorem r_sum {K : PySem.W.Frag} {H : Hp} {Q : VK} {a : Addr} {l : List Nat} (h : SqL K H a (vints l)) (q : Q (.int ((l.sum : Nat) : Int)) H) : rSum K [.ref a] H Q := by
  refine ⟨a, l.map fun n : Nat => (n : Int), rfl, ?_, ?_⟩
  · rw [← vints_eq]
    exact h
  · rw [vints_sum]
    exact q
end GX

set_option Elab.async false
set_option linter.all false
set_option maxRecDepth 100000
set_option maxHeartbeats 4000000
namespace GX
open PySem L2 PySem.Spec
theorem lay_strs {zs : List Str} (h : ∀ z ∈ zs, PyData.strOk z = true) : PyData.canLayAll0 (zs.map PyData.str) = true := by
  induction zs with
  | nil => rfl
  | cons z zs ih => simp [PyData.canLayAll0, PyData.canLay0, ih fun y hy => h y (List.mem_cons_of_mem _ hy), h z (List.mem_cons_self ..)]
theorem depth_strs (zs : List Str) : PyData.depthAll (zs.map PyData.str) ≤ 1 := by
  induction zs with
  | nil => simp [PyData.depthAll]
  | cons z zs ih =>
    simp only [List.map_cons, PyData.depthAll, PyData.depth]
    omega
theorem shaped_strs {zs : List Str} (h : ∀ z ∈ zs, PyData.strOk z = true) : SeqAt.shaped (.list (zs.map PyData.str)) = true := by
  have h1 := lay_strs h
  have h2 := depth_strs zs
  unfold SeqAt.shaped
  simp only [PyData.canLay0, PyData.depth, h1, Bool.true_and]
  exact decide_eq_true (by omega)
theorem eqv_strs {zs : List Str} (h : ∀ z ∈ zs, PyData.strOk z = true) : PyData.eqv (.list (zs.map PyData.str)) (.list (zs.map PyData.str)) = true :=
  SeqAt.eqv_refl _ (by simp only [PyData.canLay0]; exact lay_strs h)
end GX

set_option Elab.async false
set_option linter.all false
set_option maxRecDepth 100000
set_option maxHeartbeats 4000000
/-! ### the layer of data: values without addresses, and few cells that may change -/
namespace GX
open PySem L2 PySem.Spec
inductive D where
  | non | bl (b : Bool) | int (i : Int) | str (z : Str) | ty (n : String)
  | lst (xs : List D) | tup (xs : List D)
  | dK (kvs : List (Key × D)) | dT (kvs : List (List Key × D))
  | ins (C : Addr) (fs : List (Str × D))
  | ref (a : Addr)
/-- a cell: what may change -/
inductive DO where
  | lst (xs : List D) | dK (kvs : List (Key × D)) | dT (kvs : List (List Key × D))
  | ins (C : Addr) (fs : List (Str × D)) | src (la : Addr) | held
  /-- a dict while it is walked -/
  | dKl (o : Obj) (kvs : List (Key × V)) (kds : List (Key × D))
abbrev Hs := Addr → Option DO
def seth (h : Hs) (a : Addr) (o : DO) : Hs := fun b => if b = a then some o else h b
def delh (h : Hs) (a : Addr) : Hs := fun b => if b = a then none else h b
theorem seth_same {h : Hs} {a : Addr} {o : DO} : seth h a o a = some o := if_pos rfl
theorem seth_ne {h : Hs} {a b : Addr} {o : DO} (n : b ≠ a) : seth h a o b = h b := if_neg n
theorem delh_same {h : Hs} {a : Addr} : delh h a a = none := if_pos rfl
theorem delh_ne {h : Hs} {a b : Addr} (n : b ≠ a) : delh h a b = h b := if_neg n
theorem seth_seth {h : Hs} {a : Addr} {o u : DO} : seth (seth h a o) a u = seth h a u := by
  funext b; unfold seth; split <;> rfl
theorem delh_seth {h : Hs} {a : Addr} {o : DO} (n : h a = none) : delh (seth h a o) a = h := by
  funext b; unfold delh seth
  by_cases e : b = a
  · subst e; rw [if_pos rfl, n]
  · rw [if_neg e, if_neg e]
theorem seth_comm {h : Hs} {a b : Addr} {o u : DO} (n : a ≠ b) : seth (seth h a o) b u = seth (seth h b u) a o := by
  funext c; unfold seth
  by_cases e : c = b
  · subst e; rw [if_pos rfl, if_neg n.symm, if_pos rfl]
  · rw [if_neg e, if_neg e]
theorem delh_comm {h : Hs} {a b : Addr} {o : DO} (n : a ≠ b) : delh (seth h a o) b = seth (delh h b) a o := by
  funext c; unfold seth delh
  by_cases e : c = b
  · subst e; rw [if_pos rfl, if_neg n.symm, if_pos rfl]
  · rw [if_neg e, if_neg e]
theorem delh_none {h : Hs} {a : Addr} (n : h a = none) : delh h a = h := by
  funext b; unfold delh
  by_cases e : b = a
  · subst e; rw [if_pos rfl, n]
  · rw [if_neg e]
theorem h_ne {h : Hs} {a b : Addr} {o : DO} (x : h a = some o) (y : h b = none) : a ≠ b := by
  rintro rfl; rw [x] at y; cases y
theorem h_ne2 {h : Hs} {a b : Addr} {o u : DO} (x : h a = some o) (y : h b = some u) (n : o ≠ u) : a ≠ b := by
  rintro rfl; rw [x] at y; exact n (Option.some.inj y)
/-- the heap without the cells -/
def Fz (h : Hs) (H : Hp) : Hp := fun b => if (h b).isSome = true then none else H b
theorem fz_out {h : Hs} {H : Hp} {b : Addr} (n : h b = none) : Fz h H b = H b := by unfold Fz; rw [n]; rfl
theorem fz_in {h : Hs} {H : Hp} {b : Addr} {o : DO} (n : h b = some o) : Fz h H b = none := by unfold Fz; rw [n]; rfl
theorem fz_some {h : Hs} {H : Hp} {b : Addr} {o : HO} (e : Fz h H b = some o) : h b = none ∧ H b = some o := by
  cases n : h b with
  | none => rw [fz_out n] at e; exact ⟨rfl, e⟩
  | some u => rw [fz_in n] at e; cases e
/-- a dict under a lock is what it was -/
def un : HO → HO
  | .frz _ (.dK k) => .dK k
  | .frz _ (.dT k) => .dT k
  | o => o
mutual
/-- a value's data, over what does not change -/
inductive Dx (G : Hp) : V → D → Prop
  | non : Dx G .non .non
  | bl (b : Bool) : Dx G (.bl b) (.bl b)
  | int (i : Int) : Dx G (.int i) (.int i)
  | str (z : Str) : Dx G (.str z) (.str z)
  | ty (n : String) : Dx G (.ty n) (.ty n)
  | ref (a : Addr) : Dx G (.ref a) (.ref a)
  | lst {p : Addr} {vs : List V} {ds : List D} : G p = some (.lst vs) → DxA G vs ds → Dx G (.ref p) (.lst ds)
  | tup {p : Addr} {vs : List V} {ds : List D} : G p = some (.tup vs) → DxA G vs ds → Dx G (.ref p) (.tup ds)
  | dK {p : Addr} {u : HO} {kvs : List (Key × V)} {kds : List (Key × D)} : G p = some u → un u = .dK kvs → kvs.map (·.1) = kds.map (·.1) → DxA G (kvs.map (·.2)) (kds.map (·.2)) → Dx G (.ref p) (.dK kds)
  | dT {p : Addr} {u : HO} {kvs : List (List Key × V)} {kds : List (List Key × D)} : G p = some u → un u = .dT kvs → kvs.map (·.1) = kds.map (·.1) → DxA G (kvs.map (·.2)) (kds.map (·.2)) → Dx G (.ref p) (.dT kds)
  | ins {p C dx : Addr} {ws : List (Str × V)} {fs : List (Str × D)} : G p = some (.ins C dx ws) → ws.map (·.1) = fs.map (·.1) → DxA G (ws.map (·.2)) (fs.map (·.2)) → Dx G (.ref p) (.ins C fs)
inductive DxA (G : Hp) : List V → List D → Prop
  | nil : DxA G [] []
  | cons {v : V} {d : D} {vs : List V} {ds : List D} : Dx G v d → DxA G vs ds → DxA G (v :: vs) (d :: ds)
end
/-- up to locks -/
def SameU (G G' : Hp) : Prop := ∀ b o, G b = some o → ∃ o', G' b = some o' ∧ un o' = un o ∧ ((∀ k, un o ≠ .dK k) → (∀ k, un o ≠ .dT k) → o' = o)
theorem sameU {G G' : Hp} (s : Same G G') : SameU G G' := fun b o e => ⟨o, s b o e, rfl, fun _ _ => rfl⟩
theorem SameU.keep {G G' : Hp} (s : SameU G G') {b : Addr} {o : HO} (e : G b = some o) (h1 : ∀ k, un o ≠ .dK k) (h2 : ∀ k, un o ≠ .dT k) : G' b = some o := by
  obtain ⟨o', e', _, k⟩ := s b o e
  rw [e', k h1 h2]
mutual
theorem Dx.monoU {G G' : Hp} (s : SameU G G') : ∀ {v : V} {d : D}, Dx G v d → Dx G' v d
  | _, _, .non => .non
  | _, _, .bl b => .bl b
  | _, _, .int i => .int i
  | _, _, .str z => .str z
  | _, _, .ty n => .ty n
  | _, _, .ref a => .ref a
  | _, _, .lst h a => .lst (s.keep h (fun _ e => nomatch e) (fun _ e => nomatch e)) (DxA.monoU s a)
  | _, _, .tup h a => .tup (s.keep h (fun _ e => nomatch e) (fun _ e => nomatch e)) (DxA.monoU s a)
  | _, _, .dK h u e a => by
    obtain ⟨o', e1, e2, _⟩ := s _ _ h
    exact .dK e1 (e2.trans u) e (DxA.monoU s a)
  | _, _, .dT h u e a => by
    obtain ⟨o', e1, e2, _⟩ := s _ _ h
    exact .dT e1 (e2.trans u) e (DxA.monoU s a)
  | _, _, .ins h e a => .ins (s.keep h (fun _ e => nomatch e) (fun _ e => nomatch e)) e (DxA.monoU s a)
theorem DxA.monoU {G G' : Hp} (s : SameU G G') : ∀ {v : List V} {d : List D}, DxA G v d → DxA G' v d
  | _, _, .nil => .nil
  | _, _, .cons h a => .cons (Dx.monoU s h) (DxA.monoU s a)
end
theorem Dx.mono {G G' : Hp} (s : Same G G') {v : V} {d : D} (h : Dx G v d) : Dx G' v d := h.monoU (sameU s)
theorem DxA.mono {G G' : Hp} (s : Same G G') {v : List V} {d : List D} (h : DxA G v d) : DxA G' v d := h.monoU (sameU s)
section
variable {G : Hp}
theorem DxA.len : ∀ {vs : List V} {ds : List D}, DxA G vs ds → vs.length = ds.length
  | _, _, .nil => rfl
  | _, _, .cons _ a => congrArg (· + 1) (DxA.len a)
theorem DxA.get : ∀ {vs : List V} {ds : List D} {i : Nat} {d : D}, DxA G vs ds → ds[i]? = some d → ∃ v, vs[i]? = some v ∧ Dx G v d
  | _, _, _, _, .nil, e => nomatch e
  | _, _, 0, _, .cons h _, e => by cases e; exact ⟨_, rfl, h⟩
  | _, _, i + 1, _, .cons _ a, e => DxA.get (i := i) a e
theorem DxA.getV : ∀ {vs : List V} {ds : List D} {i : Nat} {v : V}, DxA G vs ds → vs[i]? = some v → ∃ d, ds[i]? = some d ∧ Dx G v d
  | _, _, _, _, .nil, e => nomatch e
  | _, _, 0, _, .cons h _, e => by cases e; exact ⟨_, rfl, h⟩
  | _, _, i + 1, _, .cons _ a, e => DxA.getV (i := i) a e
theorem DxA.app : ∀ {vs ws : List V} {ds es : List D}, DxA G vs ds → DxA G ws es → DxA G (vs ++ ws) (ds ++ es)
  | _, _, _, _, .nil, b => b
  | _, _, _, _, .cons h a, b => .cons h (DxA.app a b)
theorem DxA.one {v : V} {d : D} (h : Dx G v d) : DxA G [v] [d] := .cons h .nil
theorem DxA.set {v : V} {d : D} (h : Dx G v d) : ∀ {vs : List V} {ds : List D} (i : Nat), DxA G vs ds → DxA G (vs.set i v) (ds.set i d)
  | _, _, _, .nil => .nil
  | _, _, 0, .cons _ a => .cons h a
  | _, _, i + 1, .cons g a => .cons g (DxA.set h i a)
theorem DxA.take : ∀ {vs : List V} {ds : List D} (n : Nat), DxA G vs ds → DxA G (vs.take n) (ds.take n)
  | _, _, 0, _ => .nil
  | _, _, n + 1, .nil => .nil
  | _, _, n + 1, .cons g a => .cons g (DxA.take n a)
theorem DxA.drop : ∀ {vs : List V} {ds : List D} (n : Nat), DxA G vs ds → DxA G (vs.drop n) (ds.drop n)
  | _, _, 0, h => h
  | _, _, n + 1, .nil => .nil
  | _, _, n + 1, .cons _ a => DxA.drop n a
theorem DxA.rev : ∀ {vs : List V} {ds : List D}, DxA G vs ds → DxA G vs.reverse ds.reverse
  | _, _, .nil => .nil
  | _, _, .cons g a => by
    rw [List.reverse_cons, List.reverse_cons]
    exact (DxA.rev a).app (.one g)
theorem DxA.rep {v : V} {d : D} (h : Dx G v d) : ∀ n, DxA G (List.replicate n v) (List.replicate n d)
  | 0 => .nil
  | n + 1 => .cons h (DxA.rep h n)
theorem DxA.strs : ∀ (zs : List Str), DxA G (zs.map V.str) (zs.map D.str)
  | [] => .nil
  | z :: zs => .cons (.str z) (DxA.strs zs)
theorem DxA.ints : ∀ (zs : List Int), DxA G (zs.map V.int) (zs.map D.int)
  | [] => .nil
  | z :: zs => .cons (.int z) (DxA.ints zs)
theorem DxA.bls : ∀ (zs : List Bool), DxA G (zs.map V.bl) (zs.map D.bl)
  | [] => .nil
  | z :: zs => .cons (.bl z) (DxA.bls zs)
theorem DxA.strs_inv : ∀ {zs : List Str} {vs : List V}, DxA G vs (zs.map D.str) → vs = zs.map V.str
  | [], _, h => by cases h; rfl
  | z :: zs, _, h => by
    cases h with
    | cons h a => cases h; rw [DxA.strs_inv a]; rfl
theorem DxA.ints_inv : ∀ {zs : List Int} {vs : List V}, DxA G vs (zs.map D.int) → vs = zs.map V.int
  | [], _, h => by cases h; rfl
  | z :: zs, _, h => by
    cases h with
    | cons h a => cases h; rw [DxA.ints_inv a]; rfl
theorem DxA.bls_inv : ∀ {zs : List Bool} {vs : List V}, DxA G vs (zs.map D.bl) → vs = zs.map V.bl
  | [], _, h => by cases h; rfl
  | z :: zs, _, h => by
    cases h with
    | cons h a => cases h; rw [DxA.bls_inv a]; rfl
theorem DxA.of : ∀ {vs : List V} {ds : List D}, vs.length = ds.length → (∀ (i : Nat) (v : V) (d : D), vs[i]? = some v → ds[i]? = some d → Dx G v d) → DxA G vs ds
  | [], [], _, _ => .nil
  | v :: vs, d :: ds, l, h => .cons (h 0 v d rfl rfl) (DxA.of (Nat.succ.inj l) fun i u e a b => h (i + 1) u e a b)
end
def kD : Key → D
  | .inl i => .int i
  | .inr z => .str z
theorem dx_key {G : Hp} (k : Key) : Dx G (kV k) (kD k) := by
  cases k with
  | inl i => exact .int i
  | inr z => exact .str z
theorem dx_key_inv {G : Hp} {k : Key} {v : V} (h : Dx G v (kD k)) : v = kV k := by
  cases k with
  | inl i => cases h; rfl
  | inr z => cases h; rfl
theorem dxA_keys {G : Hp} : ∀ (ks : List Key), DxA G (ks.map kV) (ks.map kD)
  | [] => .nil
  | k :: ks => .cons (dx_key k) (dxA_keys ks)
theorem dxA_keys_inv {G : Hp} : ∀ {ks : List Key} {vs : List V}, DxA G vs (ks.map kD) → vs = ks.map kV
  | [], _, h => by cases h; rfl
  | k :: ks, _, h => by
    cases h with
    | cons h a => rw [dx_key_inv h, dxA_keys_inv a]; rfl

/-! ### cells -/
def CellOk (G H : Hp) (a : Addr) : DO → Prop
  | .lst ds => ∃ vs, H a = some (.lst vs) ∧ DxA G vs ds
  | .dK kds => ∃ kvs : List (Key × V), H a = some (.dK kvs) ∧ kvs.map (·.1) = kds.map (·.1) ∧ DxA G (kvs.map (·.2)) (kds.map (·.2))
  | .dT kds => ∃ kvs : List (List Key × V), H a = some (.dT kvs) ∧ kvs.map (·.1) = kds.map (·.1) ∧ DxA G (kvs.map (·.2)) (kds.map (·.2))
  | .ins C fs => ∃ (dx : Addr) (ws : List (Str × V)), H a = some (.ins C dx ws) ∧ ws.map (·.1) = fs.map (·.1) ∧ DxA G (ws.map (·.2)) (fs.map (·.2))
  | .src la => Src H a la
  | .held => ∃ o, H a = some o
  | .dKl o kvs kds => H a = some (.frz o (.dK kvs)) ∧ kvs.map (·.1) = kds.map (·.1) ∧ DxA G (kvs.map (·.2)) (kds.map (·.2))
structure RelH (h : Hs) (H : Hp) : Prop where
  cell : ∀ a o, h a = some o → CellOk (Fz h H) H a o
  src : ∀ a la, h a = some (.src la) → h la = some .held
theorem CellOk.at {G H : Hp} {a : Addr} {o : DO} (c : CellOk G H a o) : ∃ u, H a = some u := by
  cases o with
  | lst ds => obtain ⟨_, e, _⟩ := c; exact ⟨_, e⟩
  | dK ds => obtain ⟨_, e, _⟩ := c; exact ⟨_, e⟩
  | dT ds => obtain ⟨_, e, _⟩ := c; exact ⟨_, e⟩
  | ins C ds => obtain ⟨_, _, e, _⟩ := c; exact ⟨_, e⟩
  | src la => exact Src.at c
  | held => exact c
  | dKl o vs ds => exact ⟨_, c.1⟩
theorem RelH.no {h : Hs} {H : Hp} (r : RelH h H) {p : Addr} (n : H p = none) : h p = none := by
  cases e : h p with
  | none => rfl
  | some o =>
    obtain ⟨u, z⟩ := (r.cell p o e).at
    rw [n] at z; cases z
/-- what a cell says, where its place and what does not change stand -/
theorem CellOk.mono {G G' H H' : Hp} {a : Addr} {o : DO} (c : CellOk G H a o) (s : SameU G G') (e : H' a = H a) (hs : ∀ la, o = .src la → H' la = H la) : CellOk G' H' a o := by
  cases o with
  | lst ds => obtain ⟨vs, h1, h2⟩ := c; exact ⟨vs, e.trans h1, h2.monoU s⟩
  | dK ds => obtain ⟨vs, h1, h2, h3⟩ := c; exact ⟨vs, e.trans h1, h2, h3.monoU s⟩
  | dT ds => obtain ⟨vs, h1, h2, h3⟩ := c; exact ⟨vs, e.trans h1, h2, h3.monoU s⟩
  | ins C ds => obtain ⟨dx, vs, h1, h2, h3⟩ := c; exact ⟨dx, vs, e.trans h1, h2, h3.monoU s⟩
  | src la =>
    obtain ⟨ne, ns, pos, rest, st, n, h1, h2, r⟩ := c
    exact ⟨ne, ns, pos, rest, st, n, e.trans h1, (hs la rfl).trans h2, r⟩
  | held => obtain ⟨u, z⟩ := c; exact ⟨u, e.trans z⟩
  | dKl o vs ds => obtain ⟨h1, h2, h3⟩ := c; exact ⟨e.trans h1, h2, h3.monoU s⟩
section
variable {h : Hs} {H : Hp} {p : Addr} {o : HO} {c : DO}
/-- something new that stays as it is -/
theorem fz_new (r : RelH h H) (n : H p = none) : Fz h (upd H p o) = upd (Fz h H) p o := by
  have z := r.no n
  funext b
  by_cases e : b = p
  · subst e; rw [upd_same, fz_out z, upd_same]
  · rw [upd_ne e]
    unfold Fz
    rw [upd_ne e]
theorem fz_none (n : H p = none) : Fz h H p = none := by
  cases e : h p with
  | none => rw [fz_out e]; exact n
  | some u => exact fz_in e
theorem RelH.newF (r : RelH h H) (n : H p = none) : RelH h (upd H p o) ∧ Same (Fz h H) (Fz h (upd H p o)) := by
  have s : Same (Fz h H) (Fz h (upd H p o)) := by rw [fz_new r n]; exact Same.new (fz_none n)
  refine ⟨⟨fun a u e => ?_, r.src⟩, s⟩
  have hne : ∀ b, (∃ v, H b = some v) → b ≠ p := fun b ⟨v, z⟩ => ne_of_none z n
  refine (r.cell a u e).mono (sameU s) (upd_ne (hne a (r.cell a u e).at)) fun la q => ?_
  subst q
  exact upd_ne (hne la (r.cell la _ (r.src a la e)).at)
theorem fz_seth {h : Hs} {H : Hp} {p : Addr} {o : HO} {c : DO} : Fz (seth h p c) (upd H p o) = fun b => if b = p then none else Fz h H b := by
  funext b
  by_cases e : b = p
  · subst e; rw [if_pos rfl, fz_in seth_same]
  · rw [if_neg e]; unfold Fz; rw [seth_ne e, upd_ne e]
/-- a new cell -/
theorem RelH.newC (r : RelH h H) (n : H p = none) (k : CellOk (Fz h H) (upd H p o) p c) (ns : ∀ la, c ≠ .src la) : RelH (seth h p c) (upd H p o) ∧ Same (Fz h H) (Fz (seth h p c) (upd H p o)) := by
  have s : Same (Fz h H) (Fz (seth h p c) (upd H p o)) := fun b u e => by
    have ne := ne_of_none e (fz_none (h := h) n)
    rw [fz_seth]; show (if b = p then none else Fz h H b) = _; rw [if_neg ne]; exact e
  refine ⟨⟨fun a u e => ?_, fun a la e => ?_⟩, s⟩
  · by_cases ea : a = p
    · subst ea
      rw [seth_same] at e
      cases e
      exact k.mono (sameU s) rfl fun la q => absurd q (ns la)
    · rw [seth_ne ea] at e
      refine (r.cell a u e).mono (sameU s) (upd_ne ea) fun la q => ?_
      subst q
      obtain ⟨v, z⟩ := (r.cell la _ (r.src a la e)).at
      exact upd_ne (ne_of_none z n)
  · by_cases ea : a = p
    · subst ea
      rw [seth_same] at e
      exact absurd (Option.some.inj e) (ns la)
    · rw [seth_ne ea] at e
      have z := r.src a la e
      rw [seth_ne]
      · exact z
      · rintro rfl
        rw [r.no n] at z; cases z
/-- a cell written -/
theorem RelH.write {c0 : DO} (r : RelH h H) (e0 : h p = some c0) (n0 : ∀ la, c0 ≠ .src la) (n1 : c0 ≠ .held) (k : CellOk (Fz h H) (upd H p o) p c) (ns : ∀ la, c ≠ .src la) :
    RelH (seth h p c) (upd H p o) ∧ Same (Fz h H) (Fz (seth h p c) (upd H p o)) := by
  have s : Same (Fz h H) (Fz (seth h p c) (upd H p o)) := fun b u e => by
    have ne : b ≠ p := by
      rintro rfl
      rw [fz_in e0] at e; cases e
    rw [fz_seth]; show (if b = p then none else Fz h H b) = _; rw [if_neg ne]; exact e
  refine ⟨⟨fun a u e => ?_, fun a la e => ?_⟩, s⟩
  · by_cases ea : a = p
    · subst ea
      rw [seth_same] at e
      cases e
      exact k.mono (sameU s) rfl fun la q => absurd q (ns la)
    · rw [seth_ne ea] at e
      refine (r.cell a u e).mono (sameU s) (upd_ne ea) fun la q => ?_
      subst q
      refine upd_ne ?_
      rintro rfl
      have z := r.src a _ e
      rw [e0] at z
      exact n1 (Option.some.inj z)
  · by_cases ea : a = p
    · subst ea
      rw [seth_same] at e
      exact absurd (Option.some.inj e) (ns la)
    · rw [seth_ne ea] at e
      have z := r.src a la e
      rw [seth_ne]
      · exact z
      · rintro rfl
        rw [e0] at z
        exact n1 (Option.some.inj z)
/-- a cell that will change no more -/
theorem fz_del {h : Hs} {H : Hp} {p : Addr} : Same (Fz h H) (Fz (delh h p) H) := fun b u e => by
  obtain ⟨n, z⟩ := fz_some e
  have : delh h p b = none := by
    by_cases q : b = p
    · subst q; exact delh_same
    · rw [delh_ne q]; exact n
  rw [fz_out this]; exact z
theorem RelH.del {c0 : DO} (r : RelH h H) (e0 : h p = some c0) (n0 : ∀ la, c0 ≠ .src la) (n1 : c0 ≠ .held) : RelH (delh h p) H := by
  refine ⟨fun a u e => ?_, fun a la e => ?_⟩
  · have ea : a ≠ p := by
      rintro rfl
      rw [delh_same] at e; cases e
    rw [delh_ne ea] at e
    exact (r.cell a u e).mono (sameU fz_del) rfl fun _ _ => rfl
  · have ea : a ≠ p := by
      rintro rfl
      rw [delh_same] at e; cases e
    rw [delh_ne ea] at e
    have z := r.src a la e
    rw [delh_ne]
    · exact z
    · rintro rfl
      rw [e0] at z
      exact n1 (Option.some.inj z)
end
mutual
/-- what a cell holds becomes data -/
inductive Frz : Hs → D → D → Hs → Prop
  | id {h : Hs} {d : D} : Frz h d d h
  | lst {h h' : Hs} {p : Addr} {ds es : List D} : h p = some (.lst ds) → FrzA (delh h p) ds es h' → Frz h (.ref p) (.lst es) h'
  | dK {h h' : Hs} {p : Addr} {kds kes : List (Key × D)} : h p = some (.dK kds) → kes.map (·.1) = kds.map (·.1) → FrzA (delh h p) (kds.map (·.2)) (kes.map (·.2)) h' → Frz h (.ref p) (.dK kes) h'
  | dT {h h' : Hs} {p : Addr} {kds kes : List (List Key × D)} : h p = some (.dT kds) → kes.map (·.1) = kds.map (·.1) → FrzA (delh h p) (kds.map (·.2)) (kes.map (·.2)) h' → Frz h (.ref p) (.dT kes) h'
  | ins {h h' : Hs} {p C : Addr} {kds kes : List (Str × D)} : h p = some (.ins C kds) → kes.map (·.1) = kds.map (·.1) → FrzA (delh h p) (kds.map (·.2)) (kes.map (·.2)) h' → Frz h (.ref p) (.ins C kes) h'
inductive FrzA : Hs → List D → List D → Hs → Prop
  | id {h : Hs} {ds : List D} : FrzA h ds ds h
  | cons {h h1 h2 : Hs} {d e : D} {ds es : List D} : Frz h d e h1 → FrzA h1 ds es h2 → FrzA h (d :: ds) (e :: es) h2
end
mutual
theorem Frz.ok : ∀ {h h' : Hs} {d e : D} {H : Hp} {v : V}, Frz h d e h' → RelH h H → Dx (Fz h H) v d → RelH h' H ∧ Same (Fz h H) (Fz h' H) ∧ Dx (Fz h' H) v e
  | _, _, _, _, _, _, .id, r, x => ⟨r, Same.refl _, x⟩
  | _, _, _, _, H, v, .lst (p := p) e0 a, r, x => by
    cases x
    obtain ⟨vs, h1, h2⟩ := r.cell _ _ e0
    obtain ⟨r', s', x'⟩ := FrzA.ok (H := H) a (r.del e0 (fun _ q => nomatch q) (fun q => nomatch q)) (h2.mono fz_del)
    exact ⟨r', fz_del.trans s', .lst (s' _ _ (by rw [fz_out delh_same]; exact h1)) x'⟩
  | _, _, _, _, H, v, .dK (p := p) e0 ek a, r, x => by
    cases x
    obtain ⟨vs, h1, hk, h2⟩ := r.cell _ _ e0
    obtain ⟨r', s', x'⟩ := FrzA.ok (H := H) a (r.del e0 (fun _ q => nomatch q) (fun q => nomatch q)) (h2.mono fz_del)
    exact ⟨r', fz_del.trans s', .dK (s' _ _ (by rw [fz_out delh_same]; exact h1)) rfl (hk.trans ek.symm) x'⟩
  | _, _, _, _, H, v, .dT (p := p) e0 ek a, r, x => by
    cases x
    obtain ⟨vs, h1, hk, h2⟩ := r.cell _ _ e0
    obtain ⟨r', s', x'⟩ := FrzA.ok (H := H) a (r.del e0 (fun _ q => nomatch q) (fun q => nomatch q)) (h2.mono fz_del)
    exact ⟨r', fz_del.trans s', .dT (s' _ _ (by rw [fz_out delh_same]; exact h1)) rfl (hk.trans ek.symm) x'⟩
  | _, _, _, _, H, v, .ins (p := p) e0 ek a, r, x => by
    cases x
    obtain ⟨dx, vs, h1, hk, h2⟩ := r.cell _ _ e0
    obtain ⟨r', s', x'⟩ := FrzA.ok (H := H) a (r.del e0 (fun _ q => nomatch q) (fun q => nomatch q)) (h2.mono fz_del)
    exact ⟨r', fz_del.trans s', .ins (s' _ _ (by rw [fz_out delh_same]; exact h1)) (hk.trans ek.symm) x'⟩
theorem FrzA.ok : ∀ {h h' : Hs} {d e : List D} {H : Hp} {v : List V}, FrzA h d e h' → RelH h H → DxA (Fz h H) v d → RelH h' H ∧ Same (Fz h H) (Fz h' H) ∧ DxA (Fz h' H) v e
  | _, _, _, _, _, _, .id, r, x => ⟨r, Same.refl _, x⟩
  | _, _, _, _, H, _, .cons a b, r, x => by
    cases x with
    | cons x xs =>
      obtain ⟨r1, s1, x1⟩ := Frz.ok (H := H) a r x
      obtain ⟨r2, s2, x2⟩ := FrzA.ok (H := H) b r1 (xs.mono s1)
      exact ⟨r2, s1.trans s2, .cons (x1.mono s2) x2⟩
end
end GX

set_option Elab.async false
set_option linter.all false
set_option maxRecDepth 100000
set_option maxHeartbeats 4000000
namespace GX
open PySem L2 PySem.Spec
abbrev Rho := List (Option D)
abbrev QD := D → Hs → Prop
structure Rel (ρ : Rho) (h : Hs) (σ : L2.St) (H : Hp) : Prop where
  rh : RelH h H
  len : ρ.length = σ.length
  sl : ∀ (i : Nat) (d : D), ρ[i]? = some (some d) → ∃ v, σ[i]? = some (some v) ∧ Dx (Fz h H) v d
abbrev Sm (h : Hs) (H : Hp) (h' : Hs) (H' : Hp) : Prop := Same (Fz h H) (Fz h' H')
def Post (h : Hs) (H : Hp) (Q : QD) (Q' : VK) : Prop := ∀ d h' v H', Q d h' → Dx (Fz h' H') v d → RelH h' H' → Sm h H h' H' → Q' v H'
def PostB (h : Hs) (H : Hp) (R : Bool → Hs → Prop) (R' : Bool → Hp → Prop) : Prop := ∀ b h' H', R b h' → RelH h' H' → Sm h H h' H' → R' b H'
def PostA (h : Hs) (H : Hp) (R : List D → Hs → Prop) (R' : List V → Hp → Prop) : Prop := ∀ ds h' vs H', R ds h' → DxA (Fz h' H') vs ds → RelH h' H' → Sm h H h' H' → R' vs H'
def PostS (h : Hs) (H : Hp) (N : Rho → Hs → Prop) (N' : L2.St → Hp → Prop) : Prop := ∀ ρ' h' σ' H', N ρ' h' → Rel ρ' h' σ' H' → Sm h H h' H' → N' σ' H'
structure DEnds where
  nx : Rho → Hs → Prop
  rt : QD
  bk : Rho → Hs → Prop
  ct : Rho → Hs → Prop
structure PostE (h : Hs) (H : Hp) (E : DEnds) (E' : Ends) : Prop where
  nx : PostS h H E.nx E'.nx
  rt : Post h H E.rt E'.rt
  bk : PostS h H E.bk E'.bk
  ct : PostS h H E.ct E'.ct
def dE (t : TE) (ρ : Rho) (h : Hs) (Q : QD) : Prop := ∀ σ H Q', Rel ρ h σ H → Post h H Q Q' → t σ H Q'
def dT (t : TT) (ρ : Rho) (h : Hs) (R : Bool → Hs → Prop) : Prop := ∀ σ H R', Rel ρ h σ H → PostB h H R R' → t σ H R'
def dA (t : TA) (ρ : Rho) (h : Hs) (R : List D → Hs → Prop) : Prop := ∀ σ H R', Rel ρ h σ H → PostA h H R R' → t σ H R'
def dS (t : TS) (E : DEnds) (ρ : Rho) (h : Hs) : Prop := ∀ σ H E', Rel ρ h σ H → PostE h H E E' → t E' σ H
/-- a target; W: the slots that it may set -/
def dG (W : List Nat) (g : TG) (x : D) (ρ : Rho) (h : Hs) (N : Rho → Hs → Prop) : Prop := ∀ σ H v (N' : L2.St → Hp → Prop), Rel ρ h σ H → Dx (Fz h H) v x →
  (∀ ρ' h' σ' H', N ρ' h' → Rel ρ' h' σ' H' → Sm h H h' H' → σ'.length = σ.length → (∀ i, i ∉ W → σ'[i]? = σ[i]?) → N' σ' H') → g v σ H N'
def dGs (W : List Nat) (g : TGs) (xs : List D) (ρ : Rho) (h : Hs) (N : Rho → Hs → Prop) : Prop := ∀ σ H vs (N' : L2.St → Hp → Prop), Rel ρ h σ H → DxA (Fz h H) vs xs →
  (∀ ρ' h' σ' H', N ρ' h' → Rel ρ' h' σ' H' → Sm h H h' H' → σ'.length = σ.length → (∀ i, i ∉ W → σ'[i]? = σ[i]?) → N' σ' H') → g vs σ H N'
/-- by values -/
def dR (r : V → Hp → VK → Prop) (x : D) (h : Hs) (Q : QD) : Prop := ∀ v H Q', RelH h H → Dx (Fz h H) v x → Post h H Q Q' → r v H Q'
def dR2 (r : R2) (x y : D) (h : Hs) (Q : QD) : Prop := ∀ v w H Q', RelH h H → Dx (Fz h H) v x → Dx (Fz h H) w y → Post h H Q Q' → r v w H Q'
def dRA (r : List V → Hp → VK → Prop) (xs : List D) (h : Hs) (Q : QD) : Prop := ∀ vs H Q', RelH h H → DxA (Fz h H) vs xs → Post h H Q Q' → r vs H Q'
def dRM (r : V → List V → Hp → VK → Prop) (x : D) (xs : List D) (h : Hs) (Q : QD) : Prop := ∀ v vs H Q', RelH h H → Dx (Fz h H) v x → DxA (Fz h H) vs xs → Post h H Q Q' → r v vs H Q'
section
variable {ρ ρ' : Rho} {h h1 h' : Hs} {σ : L2.St} {H H1 H' : Hp}
theorem Rel.step (r : Rel ρ h σ H) (rh : RelH h1 H1) (s : Sm h H h1 H1) : Rel ρ h1 σ H1 :=
  ⟨rh, r.len, fun i d e => let ⟨v, e1, x⟩ := r.sl i d e; ⟨v, e1, x.mono s⟩⟩
theorem Rel.set (r : Rel ρ h σ H) {v : V} {d : D} (x : Dx (Fz h H) v d) (n : Nat) : Rel (ρ.set n (some d)) h (σ.set n (some v)) H := by
  refine ⟨r.rh, by rw [List.length_set, List.length_set, r.len], fun i e hi => ?_⟩
  by_cases q : n = i
  · subst q
    have hl : n < ρ.length := by
      have := (List.getElem?_eq_some_iff.mp hi).1
      rwa [List.length_set] at this
    rw [List.getElem?_set_self hl] at hi
    cases hi
    exact ⟨v, List.getElem?_set_self (by rw [← r.len]; exact hl), x⟩
  · rw [List.getElem?_set_ne q] at hi
    obtain ⟨w, e1, y⟩ := r.sl i e hi
    exact ⟨w, by rw [List.getElem?_set_ne q]; exact e1, y⟩
theorem Post.step {Q : QD} {Q' : VK} (p : Post h H Q Q') (s : Sm h H h1 H1) : Post h1 H1 Q Q' := fun d h' v H' q x r s' => p d h' v H' q x r (s.trans s')
theorem PostB.step {Q : Bool → Hs → Prop} {Q'} (p : PostB h H Q Q') (s : Sm h H h1 H1) : PostB h1 H1 Q Q' := fun d h' H' q r s' => p d h' H' q r (s.trans s')
theorem PostA.step {Q : List D → Hs → Prop} {Q'} (p : PostA h H Q Q') (s : Sm h H h1 H1) : PostA h1 H1 Q Q' := fun d h' v H' q x r s' => p d h' v H' q x r (s.trans s')
theorem PostS.step {Q : Rho → Hs → Prop} {Q'} (p : PostS h H Q Q') (s : Sm h H h1 H1) : PostS h1 H1 Q Q' := fun d h' v H' q r s' => p d h' v H' q r (s.trans s')
theorem PostE.step {E : DEnds} {E'} (p : PostE h H E E') (s : Sm h H h1 H1) : PostE h1 H1 E E' := ⟨p.nx.step s, p.rt.step s, p.bk.step s, p.ct.step s⟩
/-- forgetting slots -/
theorem Rel.weak (r : Rel ρ h σ H) (l : ρ'.length = ρ.length) (w : ∀ (i : Nat) d, ρ'[i]? = some (some d) → ρ[i]? = some (some d)) : Rel ρ' h σ H :=
  ⟨r.rh, l.trans r.len, fun i d e => r.sl i d (w i d e)⟩
end
section
variable {ρ : Rho} {h : Hs} {Q : QD} {ta tb tc te : TE} {t u : TS} {c d : TT} {x y : D} {E : DEnds} {R : Bool → Hs → Prop} {n : Nat} {a : TA}
/-! ### expressions -/
theorem d_var (e : ρ[n]? = some (some x)) (q : Q x h) : dE (tVar n) ρ h Q := fun σ H Q' r p =>
  let ⟨v, e1, d⟩ := r.sl n x e; ⟨v, e1, p x h v H q d r.rh (Same.refl _)⟩
theorem d_c {v : V} (hv : ∀ G, Dx G v x) (q : Q x h) : dE (tC v) ρ h Q := fun σ H Q' r p => p x h v H q (hv _) r.rh (Same.refl _)
theorem d_cInt {i : Int} (q : Q (.int i) h) : dE (tC (.int i)) ρ h Q := d_c (fun _ => .int i) q
theorem d_cBl {i : Bool} (q : Q (.bl i) h) : dE (tC (.bl i)) ρ h Q := d_c (fun _ => .bl i) q
theorem d_cStr {i : Str} (q : Q (.str i) h) : dE (tC (.str i)) ρ h Q := d_c (fun _ => .str i) q
theorem d_cNon (q : Q .non h) : dE (tC .non) ρ h Q := d_c (fun _ => .non) q
theorem d_op {r : R2} (z : dE ta ρ h fun x h1 => dE tb ρ h1 fun y h2 => dR2 r x y h2 Q) : dE (tOp r ta tb) ρ h Q := fun σ H Q' rl p =>
  z σ H _ rl fun x h1 v H1 q dx rh s => q σ H1 _ (rl.step rh s) fun y h2 w H2 q2 dy rh2 s2 => q2 v w H2 Q' rh2 (dx.mono s2) dy (p.step (s.trans s2))
theorem d_un {r : V → Hp → VK → Prop} (z : dE ta ρ h fun x h1 => dR r x h1 Q) : dE (tUn r ta) ρ h Q := fun σ H Q' rl p =>
  z σ H _ rl fun x h1 v H1 q dx rh s => q v H1 Q' rh dx (p.step s)
theorem d_test (z : dE te ρ h fun x h1 => ∃ k, x = .bl k ∧ R k h1) : dT (tTest te) ρ h R := fun σ H R' rl p =>
  z σ H _ rl fun x h1 v H1 q dx rh s => by obtain ⟨k, rfl, q⟩ := q; cases dx; exact ⟨k, rfl, p k h1 H1 q rh s⟩
theorem d_B (z : dE te ρ h fun x h1 => ∃ k, x = .bl k ∧ R k h1) : dT (tB te) ρ h R := fun σ H R' rl p =>
  z σ H _ rl fun x h1 v H1 q dx rh s => by obtain ⟨k, rfl, q⟩ := q; cases dx; exact ⟨k, rfl, p k h1 H1 q rh s⟩
theorem d_bl {S : Bool → Prop} {b : Bool} (q : S b) : ∃ k, D.bl b = .bl k ∧ S k := ⟨b, rfl, q⟩
theorem d_and (z : dT c ρ h fun b h1 => if b = true then dT d ρ h1 R else R false h1) : dT (tAnd c d) ρ h R := fun σ H R' rl p =>
  z σ H _ rl fun b h1 H1 q rh s => by
    cases b with
    | true => exact q σ H1 R' (rl.step rh s) (p.step s)
    | false => exact p false h1 H1 q rh s
theorem d_or (z : dT c ρ h fun b h1 => if b = true then R true h1 else dT d ρ h1 R) : dT (tOr c d) ρ h R := fun σ H R' rl p =>
  z σ H _ rl fun b h1 H1 q rh s => by
    cases b with
    | false => exact q σ H1 R' (rl.step rh s) (p.step s)
    | true => exact p true h1 H1 q rh s
theorem d_not (z : dT c ρ h fun b h1 => R (!b) h1) : dT (tNot c) ρ h R := fun σ H R' rl p =>
  z σ H _ rl fun b h1 H1 q rh s => p (!b) h1 H1 q rh s
theorem d_yes (z : R true h) : dT tYes ρ h R := fun σ H R' rl p => p true h H z rl.rh (Same.refl _)
theorem d_if (z : dT c ρ h fun b h1 => if b = true then dE ta ρ h1 Q else dE tb ρ h1 Q) : dE (tIf c ta tb) ρ h Q := fun σ H Q' rl p =>
  z σ H _ rl fun b h1 H1 q rh s => by
    cases b with
    | true => exact q σ H1 Q' (rl.step rh s) (p.step s)
    | false => exact q σ H1 Q' (rl.step rh s) (p.step s)
theorem d_andV (z : dE ta ρ h fun x h1 => ∃ k, x = .bl k ∧ if k = true then dE tb ρ h1 Q else Q (.bl false) h1) : dE (tAndV ta tb) ρ h Q := fun σ H Q' rl p =>
  z σ H _ rl fun x h1 v H1 q dx rh s => by
    obtain ⟨k, rfl, q⟩ := q
    cases dx
    refine ⟨k, rfl, ?_⟩
    cases k with
    | true => exact q σ H1 Q' (rl.step rh s) (p.step s)
    | false => exact p _ h1 _ H1 q (.bl false) rh s
theorem d_orV (z : dE ta ρ h fun x h1 => ∃ k, x = .bl k ∧ if k = true then Q (.bl true) h1 else dE tb ρ h1 Q) : dE (tOrV ta tb) ρ h Q := fun σ H Q' rl p =>
  z σ H _ rl fun x h1 v H1 q dx rh s => by
    obtain ⟨k, rfl, q⟩ := q
    cases dx
    refine ⟨k, rfl, ?_⟩
    cases k with
    | false => exact q σ H1 Q' (rl.step rh s) (p.step s)
    | true => exact p _ h1 _ H1 q (.bl true) rh s
theorem d_notV (z : dE ta ρ h fun x h1 => ∃ k, x = .bl k ∧ Q (.bl (!k)) h1) : dE (tNotV ta) ρ h Q := fun σ H Q' rl p =>
  z σ H _ rl fun x h1 v H1 q dx rh s => by
    obtain ⟨k, rfl, q⟩ := q
    cases dx
    exact ⟨k, rfl, p _ h1 _ H1 q (.bl _) rh s⟩
theorem d_chain {r r' : R2} (z : dE ta ρ h fun x h1 => dE tb ρ h1 fun y h2 => dR2 r x y h2 fun z h3 => ∃ k, z = .bl k ∧ if k = true then dE tc ρ h3 fun w h4 => dR2 r' y w h4 Q else Q (.bl false) h3) :
    dE (tChain r r' ta tb tc) ρ h Q := fun σ H Q' rl p =>
  z σ H _ rl fun x h1 v H1 q dx rh s => q σ H1 _ (rl.step rh s) fun y h2 w H2 q2 dy rh2 s2 => q2 v w H2 _ rh2 (dx.mono s2) dy fun zz h3 u H3 q3 dz rh3 s3 => by
    obtain ⟨k, rfl, q3⟩ := q3
    cases dz
    refine ⟨k, rfl, ?_⟩
    have s' := s.trans (s2.trans s3)
    cases k with
    | true => exact q3 σ H3 _ (rl.step rh3 s') fun w' h4 w2 H4 q4 dw rh4 s4 => q4 w w2 H4 Q' rh4 (dy.mono (s3.trans s4)) dw (p.step (s'.trans s4))
    | false => exact p _ h3 _ H3 q3 (.bl false) rh3 s'
theorem d_nil {S : List D → Hs → Prop} (z : S [] h) : dA tNil ρ h S := fun σ H R' rl p => p [] h [] H z .nil rl.rh (Same.refl _)
theorem d_cons {tr : TA} {S : List D → Hs → Prop} (z : dE ta ρ h fun x h1 => dA tr ρ h1 fun xs h2 => S (x :: xs) h2) : dA (tCons ta tr) ρ h S := fun σ H R' rl p =>
  z σ H _ rl fun x h1 v H1 q dx rh s => q σ H1 _ (rl.step rh s) fun xs h2 vs H2 q2 dxs rh2 s2 => p (x :: xs) h2 (v :: vs) H2 q2 (.cons (dx.mono s2) dxs) rh2 (s.trans s2)
theorem d_CB {r : List V → Hp → VK → Prop} (z : dA a ρ h fun xs h1 => dRA r xs h1 Q) : dE (tCB r a) ρ h Q := fun σ H Q' rl p =>
  z σ H _ rl fun xs h1 vs H1 q dx rh s => q vs H1 Q' rh dx (p.step s)
theorem d_tup (z : dA a ρ h fun xs h1 => xs.length ≤ 1000000 ∧ Q (.tup xs) h1) : dE (tTup a) ρ h Q := fun σ H Q' rl p =>
  z σ H _ rl fun xs h1 vs H1 q dx rh s => by
    refine ⟨Nat.le_trans (by rw [dx.len]; exact q.1) (by decide), fun q0 np => ?_⟩
    obtain ⟨r1, s1⟩ := rh.newF (o := .tup vs) np
    exact p _ h1 _ _ q.2 (.tup (by rw [fz_new rh np, upd_same]) (dx.mono s1)) r1 (s.trans s1)
theorem d_lst (z : dA a ρ h fun xs h1 => xs.length ≤ 1000000 ∧ Q (.lst xs) h1) : dE (tLst a) ρ h Q := fun σ H Q' rl p =>
  z σ H _ rl fun xs h1 vs H1 q dx rh s => by
    refine ⟨Nat.le_trans (by rw [dx.len]; exact q.1) (by decide), fun q0 np => ?_⟩
    obtain ⟨r1, s1⟩ := rh.newF (o := .lst vs) np
    exact p _ h1 _ _ q.2 (.lst (by rw [fz_new rh np, upd_same]) (dx.mono s1)) r1 (s.trans s1)
/-- .. a cell -/
theorem d_lstC (z : dA a ρ h fun xs h1 => xs.length ≤ 1000000 ∧ ∀ p, h1 p = none → Q (.ref p) (seth h1 p (.lst xs))) : dE (tLst a) ρ h Q := fun σ H Q' rl p =>
  z σ H _ rl fun xs h1 vs H1 q dx rh s => by
    refine ⟨Nat.le_trans (by rw [dx.len]; exact q.1) (by decide), fun q0 np => ?_⟩
    obtain ⟨r1, s1⟩ := rh.newC (c := .lst xs) np ⟨vs, upd_same, dx⟩ (fun _ e => nomatch e)
    exact p _ _ _ _ (q.2 q0 (rh.no np)) (.ref _) r1 (s.trans s1)
theorem d_frz (z : dE te ρ h fun x h1 => ∃ y h2, Frz h1 x y h2 ∧ Q y h2) : dE te ρ h Q := fun σ H Q' rl p =>
  z σ H _ rl fun x h1 v H1 q dx rh s => by
    obtain ⟨y, h2, f, q⟩ := q
    obtain ⟨r2, s2, x2⟩ := f.ok rh dx
    exact p y h2 v H1 q x2 r2 (s.trans s2)
theorem dE.mono {Q2 : QD} (z : dE te ρ h Q) (k : ∀ x h1, Q x h1 → Q2 x h1) : dE te ρ h Q2 := fun σ H Q' rl p =>
  z σ H _ rl fun x h1 v H1 q dx rh s => p x h1 v H1 (k x h1 q) dx rh s
theorem dE.slots {ρ' : Rho} (z : dE te ρ' h Q) (l : ρ'.length = ρ.length) (w : ∀ (i : Nat) d, ρ'[i]? = some (some d) → ρ[i]? = some (some d)) : dE te ρ h Q := fun σ H Q' rl p => z σ H Q' (rl.weak l w) p
/-! ### statements -/
theorem d_seq (z : dS t { E with nx := fun ρ h => dS u E ρ h } ρ h) : dS (tSeq t u) E ρ h := fun σ H E' rl p =>
  z σ H _ rl ⟨fun ρ' h' σ' H' q r s => q σ' H' E' r (p.step s), p.rt, p.bk, p.ct⟩
theorem d_next (z : E.nx ρ h) : dS tNext E ρ h := fun σ H E' rl p => p.nx ρ h σ H z rl (Same.refl _)
theorem d_break (z : E.bk ρ h) : dS tBreak E ρ h := fun σ H E' rl p => p.bk ρ h σ H z rl (Same.refl _)
theorem d_cont (z : E.ct ρ h) : dS tCont E ρ h := fun σ H E' rl p => p.ct ρ h σ H z rl (Same.refl _)
theorem d_drop (z : dE te ρ h fun _ h1 => E.nx ρ h1) : dS (tDrop te) E ρ h := fun σ H E' rl p =>
  z σ H _ rl fun x h1 v H1 q dx rh s => p.nx ρ h1 σ H1 q (rl.step rh s) s
theorem d_ret (z : dE te ρ h E.rt) : dS (tRet te) E ρ h := fun σ H E' rl p => z σ H _ rl p.rt
theorem d_retN (z : E.rt .non h) : dS tRetN E ρ h := fun σ H E' rl p => p.rt .non h .non H z .non rl.rh (Same.refl _)
theorem d_ifS (z : dT c ρ h fun b h1 => if b = true then dS t E ρ h1 else dS u E ρ h1) : dS (tIfS c t u) E ρ h := fun σ H E' rl p =>
  z σ H _ rl fun b h1 H1 q rh s => by
    cases b with
    | true => exact q σ H1 E' (rl.step rh s) (p.step s)
    | false => exact q σ H1 E' (rl.step rh s) (p.step s)
theorem d_asg {g : TG} (z : dE te ρ h fun x h1 => ∃ W, dG W g x ρ h1 E.nx) : dS (tAsg te g) E ρ h := fun σ H E' rl p =>
  z σ H _ rl fun x h1 v H1 q dx rh s => by
    obtain ⟨W, q⟩ := q
    exact q σ H1 v _ (rl.step rh s) dx fun ρ' h' σ' H' q2 r2 s2 _ _ => p.nx ρ' h' σ' H' q2 r2 (s.trans s2)
theorem d_par {i j : Nat} (z : dA a ρ h fun xs h1 => ∃ x y, xs = [x, y] ∧ E.nx ((ρ.set i (some x)).set j (some y)) h1) : dS (tPar i j a) E ρ h := fun σ H E' rl p =>
  z σ H _ rl fun xs h1 vs H1 q dx rh s => by
    obtain ⟨x, y, rfl, q⟩ := q
    cases dx with
    | cons d1 dx =>
      cases dx with
      | cons d2 dx =>
        cases dx
        exact ⟨_, _, rfl, p.nx _ h1 _ H1 q (((rl.step rh s).set d1 i).set d2 j) s⟩
theorem d_pr {S : D → D → Prop} {x y : D} (q : S x y) : ∃ v w, [x, y] = [v, w] ∧ S v w := ⟨x, y, rfl, q⟩
theorem d_aug {i : Nat} {ti : TIp} (e : ρ[i]? = some (some x)) (z : dE te ρ h fun y h1 => dR2 ti x y h1 fun z h2 => E.nx (ρ.set i (some z)) h2) : dS (tAug i te ti) E ρ h := fun σ H E' rl p => by
  obtain ⟨v, ev, dx⟩ := rl.sl i x e
  refine ⟨v, ev, z σ H _ rl fun y h1 w H1 q dy rh s => q v w H1 _ rh (dx.mono s) dy fun zz h2 u H2 q2 dz rh2 s2 => ?_⟩
  exact p.nx _ h2 _ H2 q2 ((rl.step rh2 (s.trans s2)).set dz i) (s.trans s2)
/-- cells become data, seen at a slot -/
theorem dS_frz {i : Nat} {h' : Hs} (e : ρ[i]? = some (some x)) (f : Frz h x y h') (z : dS t E (ρ.set i (some y)) h') : dS t E ρ h := fun σ H E' rl p => by
  obtain ⟨v, ev, dx⟩ := rl.sl i x e
  obtain ⟨r2, s2, x2⟩ := f.ok rl.rh dx
  have r := (rl.step r2 s2).set x2 i
  have : σ.set i (some v) = σ := List.ext_getElem? fun j => by
    by_cases q : i = j
    · subst q
      rw [List.getElem?_set_self (List.getElem?_eq_some_iff.mp ev).1, ev]
    · rw [List.getElem?_set_ne q]
  rw [this] at r
  exact z σ H E' r (p.step s2)
theorem dS.slots {ρ' : Rho} (z : dS t E ρ' h) (l : ρ'.length = ρ.length) (w : ∀ (i : Nat) d, ρ'[i]? = some (some d) → ρ[i]? = some (some d)) : dS t E ρ h := fun σ H E' rl p => z σ H E' (rl.weak l w) p
theorem dS.mono {E2 : DEnds} (z : dS t E ρ h) (k1 : ∀ ρ h, E.nx ρ h → E2.nx ρ h) (k2 : ∀ x h, E.rt x h → E2.rt x h) (k3 : ∀ ρ h, E.bk ρ h → E2.bk ρ h) (k4 : ∀ ρ h, E.ct ρ h → E2.ct ρ h) : dS t E2 ρ h := fun σ H E' rl p =>
  z σ H E' rl ⟨fun ρ' h' σ' H' q r s => p.nx ρ' h' σ' H' (k1 _ _ q) r s, fun d h' v H' q x r s => p.rt d h' v H' (k2 _ _ q) x r s, fun ρ' h' σ' H' q r s => p.bk ρ' h' σ' H' (k3 _ _ q) r s, fun ρ' h' σ' H' q r s => p.ct ρ' h' σ' H' (k4 _ _ q) r s⟩
/-- where ways meet: what holds there, with cells made data -/
theorem d_meet (M : Rho → Hs → Prop) (z : dS t { E with nx := M } ρ h) (k : ∀ ρ' h', M ρ' h' → dS tNext E ρ' h') : dS t E ρ h := fun σ H E' rl p =>
  z σ H E' rl ⟨fun ρ' h' σ' H' q r s => k ρ' h' q σ' H' E' r (p.step s), p.rt, p.bk, p.ct⟩
/-! ### targets -/
theorem g_name {N : Rho → Hs → Prop} (z : N (ρ.set n (some x)) h) : dG [n] (gName n) x ρ h N := fun σ H v N' rl dx p => by
  refine p _ h _ H z (rl.set dx n) (Same.refl _) (List.length_set ..) fun i hi => ?_
  exact List.getElem?_set_ne fun q => hi (by rw [q]; exact List.mem_singleton.mpr rfl)
theorem g_nil {N : Rho → Hs → Prop} (z : N ρ h) : dGs [] gNil [] ρ h N := fun σ H v N' rl dx p => by
  cases dx
  exact ⟨rfl, p ρ h σ H z rl (Same.refl _) rfl fun _ _ => rfl⟩
theorem g_cons {g : TG} {gs : TGs} {xs : List D} {W W2 : List Nat} {N : Rho → Hs → Prop} (z : dG W g x ρ h fun ρ1 h1 => dGs W2 gs xs ρ1 h1 N) : dGs (W ++ W2) (gCons g gs) (x :: xs) ρ h N := fun σ H vs N' rl dx p => by
  cases dx with
  | cons d1 dx =>
    refine ⟨_, _, rfl, z σ H _ _ rl d1 fun ρ1 h1 σ1 H1 q r s l1 u => q σ1 H1 _ N' r (dx.mono s) fun ρ2 h2 σ2 H2 q2 r2 s2 l2 u2 => ?_⟩
    exact p ρ2 h2 σ2 H2 q2 r2 (s.trans s2) (l2.trans l1) fun i hi => (u2 i fun k => hi (List.mem_append_right _ k)).trans (u i fun k => hi (List.mem_append_left _ k))
theorem g_tup {K : PySem.W.Frag} {gs : TGs} {xs : List D} {W : List Nat} {N : Rho → Hs → Prop} (hl : xs.length = n) (z : dGs W gs xs ρ h N) : dG W (gTup K n gs) (.tup xs) ρ h N := fun σ H v N' rl dx p => by
  cases dx with
  | tup e dx =>
    exact ⟨_, _, rfl, .of (fz_some e).2, by rw [dx.len]; exact hl, z σ H _ N' rl dx p⟩
end
/-! ### what is walked -/
structure ItOk (J : It) (ds : List D) (St : Hs → Hp → Prop) : Prop where
  ex : ∃ (G : Hp → Prop) (Y : Nat → Hp → V → Hp → Prop), Walk J ds.length G Y ∧ (∀ h H, RelH h H → St h H → G H) ∧
    ∀ i h H x H', RelH h H → St h H → Y i H x H' → ∃ d, ds[i]? = some d ∧ Dx (Fz h H') x d ∧ RelH h H' ∧ Sm h H h H'
def dI (w : TI) (ρ : Rho) (h : Hs) (R : List D → (Hs → Prop) → Hs → Prop) : Prop := ∀ σ H (R' : It → Hp → Prop), Rel ρ h σ H →
  (∀ ds Sd J h1 H1, R ds Sd h1 → RelH h1 H1 → Sm h H h1 H1 → ItOk J ds (fun h' H' => Sd h' ∧ Same (Fz h1 H1) (Fz h' H')) → R' J H1) → w σ H R'
def dFor (g : TG) (t : TS) (E : DEnds) (ρ : Rho) (ds : List D) (Sd : Hs → Prop) (h : Hs) : Prop :=
  ∃ Pv : Nat → Rho → Hs → Prop, Pv 0 ρ h ∧ (∀ i ρ h, i ≤ ds.length → Pv i ρ h → Sd h) ∧
    (∀ i x ρ h, ds[i]? = some x → Pv i ρ h → ∃ W, dG W g x ρ h fun ρ1 h1 => dS t { E with nx := Pv (i + 1), ct := Pv (i + 1), bk := E.nx } ρ1 h1) ∧
    ∀ ρ h, Pv ds.length ρ h → dS tNext E ρ h
theorem forgo_of {J : It} {g : TG} {t : TS} {E : DEnds} {E' : Ends} {ρ : Rho} {h1 : Hs} {σ : L2.St} {H1 : Hp} {ds : List D} {Sd : Hs → Prop} (rl1 : Rel ρ h1 σ H1) (p1 : PostE h1 H1 E E')
    (it : ItOk J ds (fun h' H' => Sd h' ∧ Same (Fz h1 H1) (Fz h' H'))) (z : dFor g t E ρ ds Sd h1) : ForGo g t E' J σ H1 := by
  obtain ⟨Pv, p0, pG, ps, pd⟩ := z
  obtain ⟨G, Y, wk, hG, hY⟩ := it
  refine for_go wk (fun i σ' H' => ∃ ρ' h', Pv i ρ' h' ∧ Rel ρ' h' σ' H' ∧ Sm h1 H1 h' H') ⟨ρ, h1, p0, rl1, Same.refl _⟩ ?_ ?_ ?_
  · rintro i σ' H' hi ⟨ρ', h', q, r, s⟩
    exact hG h' H' r.rh ⟨pG i ρ' h' hi q, s⟩
  · rintro i x σ' H' H2 hi ⟨ρ', h', q, r, s⟩ y
    obtain ⟨d, ed, dx, rh2, s2⟩ := hY i h' H' x H2 r.rh ⟨pG i ρ' h' (Nat.le_of_lt hi) q, s⟩ y
    obtain ⟨W, q2⟩ := ps i d ρ' h' ed q
    refine q2 σ' H2 x _ (r.step rh2 s2) dx fun ρ3 h3 σ3 H3 q3 r3 s3 _ _ => ?_
    have s03 : Sm h1 H1 h3 H3 := s.trans (s2.trans s3)
    have cont : PostS h3 H3 (Pv (i + 1)) (fun σ' H' => ∃ ρ' h', Pv (i + 1) ρ' h' ∧ Rel ρ' h' σ' H' ∧ Sm h1 H1 h' H') := fun ρ4 h4 σ4 H4 q4 r4 s4 => ⟨ρ4, h4, q4, r4, s03.trans s4⟩
    exact q3 σ3 H3 _ r3 ⟨cont, p1.rt.step s03, p1.nx.step s03, cont⟩
  · rintro σ' H' ⟨ρ', h', q, r, s⟩
    exact pd ρ' h' q σ' H' E' r (p1.step s)
theorem d_for {w : TI} {g : TG} {t : TS} {E : DEnds} {ρ : Rho} {h : Hs} (z : dI w ρ h fun ds Sd h1 => dFor g t E ρ ds Sd h1) : dS (tFor w g t) E ρ h := fun σ H E' rl p =>
  r_for (z σ H _ rl fun _ _ _ _ _ q rh1 s1 it => forgo_of (rl.step rh1 s1) (p.step s1) it q)
/-- a comprehension: acc, what is made so far -/
def wipeD (ρ : Rho) : List Nat → Rho
  | [] => ρ
  | v :: vs => (wipeD ρ vs).set v none
theorem wipeD_len (ρ : Rho) : ∀ vs : List Nat, (wipeD ρ vs).length = ρ.length
  | [] => rfl
  | v :: vs => by unfold wipeD; rw [List.length_set, wipeD_len ρ vs]
theorem wipe_get (σ : L2.St) : ∀ (vs : List Nat) (i : Nat), (wipe σ vs)[i]? = if i ∈ vs ∧ i < σ.length then some none else σ[i]?
  | [], i => by simp [wipe]
  | v :: vs, i => by
    unfold wipe
    by_cases hi : v = i
    · subst hi
      by_cases hv : v < σ.length
      · rw [List.getElem?_set_self (by rw [wipe_length]; exact hv), if_pos ⟨List.mem_cons_self .., hv⟩]
      · rw [List.getElem?_eq_none (by rw [List.length_set, wipe_length]; omega), if_neg (fun q => hv q.2), List.getElem?_eq_none (by omega)]
    · rw [List.getElem?_set_ne hi, wipe_get σ vs i]
      have : (i ∈ v :: vs) ↔ i ∈ vs := by
        rw [List.mem_cons]
        exact ⟨fun q => q.resolve_left fun e => hi e.symm, .inr⟩
      simp only [this]
theorem wipeD_get (ρ : Rho) : ∀ (vs : List Nat) (i : Nat), (wipeD ρ vs)[i]? = if i ∈ vs ∧ i < ρ.length then some none else ρ[i]?
  | [], i => by simp [wipeD]
  | v :: vs, i => by
    unfold wipeD
    by_cases hi : v = i
    · subst hi
      by_cases hv : v < ρ.length
      · rw [List.getElem?_set_self (by rw [wipeD_len]; exact hv), if_pos ⟨List.mem_cons_self .., hv⟩]
      · rw [List.getElem?_eq_none (by rw [List.length_set, wipeD_len]; omega), if_neg (fun q => hv q.2), List.getElem?_eq_none (by omega)]
    · rw [List.getElem?_set_ne hi, wipeD_get ρ vs i]
      have : (i ∈ v :: vs) ↔ i ∈ vs := by
        rw [List.mem_cons]
        exact ⟨fun q => q.resolve_left fun e => hi e.symm, .inr⟩
      simp only [this]
theorem Rel.wipe {ρ : Rho} {h : Hs} {σ : L2.St} {H : Hp} (r : Rel ρ h σ H) (vs : List Nat) : Rel (wipeD ρ vs) h (L2.wipe σ vs) H := by
  refine ⟨r.rh, by rw [wipeD_len, wipe_length, r.len], fun i d e => ?_⟩
  rw [wipeD_get] at e
  split at e
  · cases e
  · rename_i n
    obtain ⟨v, e1, x⟩ := r.sl i d e
    refine ⟨v, ?_, x⟩
    rw [wipe_get, if_neg (by rw [← r.len]; exact n)]
    exact e1
theorem wipe_wipe {σ σ' : L2.St} {vs : List Nat} (l : σ'.length = σ.length) (u : ∀ i, i ∉ vs → σ'[i]? = (wipe σ vs)[i]?) : wipe σ' vs = wipe σ vs := by
  refine List.ext_getElem? fun i => ?_
  rw [wipe_get]
  by_cases hi : i ∈ vs
  · rw [wipe_get]
    by_cases hl : i < σ.length
    · rw [if_pos ⟨hi, by omega⟩, if_pos ⟨hi, hl⟩]
    · rw [if_neg (by intro q; exact hl (by omega)), if_neg (by intro q; exact hl (by omega)), List.getElem?_eq_none (by omega), List.getElem?_eq_none (by omega)]
  · rw [if_neg (fun q => hi q.1)]
    exact u i hi
/-- a new list: data, or a cell, as the caller likes -/
def Fresh (ds : List D) (h : Hs) (Q : QD) : Prop := Q (.lst ds) h ∨ ∀ a, h a = none → Q (.ref a) (seth h a (.lst ds))
/-- the turns of a comprehension: what is made so far is told by Pv -/
def dLcGo (g : TG) (tt : TT) (te : TE) (vs : List Nat) (ρ : Rho) (Q : QD) (ds : List D) (Sd : Hs → Prop) (h : Hs) : Prop :=
  ds.length ≤ 1000000 ∧ ∃ Pv : Nat → List D → Prop, Pv 0 [] ∧ (∀ p o, h p = none → Sd h → Sd (seth h p o)) ∧ Sd h ∧
    (∀ p i acc x, h p = none → ds[i]? = some x → Pv i acc → acc.length ≤ i → dG vs g x (wipeD ρ vs) (seth h p (.lst acc)) fun ρ1 h1 => h1 = seth h p (.lst acc) ∧
      dT tt ρ1 h1 fun b h2 => h2 = seth h p (.lst acc) ∧ if b = true then dE te ρ1 h2 fun y h3 => h3 = seth h p (.lst acc) ∧ Pv (i + 1) (acc ++ [y]) else Pv (i + 1) acc) ∧
    (∀ acc, acc.length ≤ ds.length → Pv ds.length acc → Fresh acc h Q)
theorem lcgo_of {J : It} {g : TG} {tt : TT} {te : TE} {vs : List Nat} {ρ : Rho} {h1 : Hs} {σ : L2.St} {H1 : Hp} {Q : QD} {Q' : VK} {ds : List D} {Sd : Hs → Prop} (rl1 : Rel ρ h1 σ H1) (p1 : Post h1 H1 Q Q')
    (it : ItOk J ds (fun h' H' => Sd h' ∧ Same (Fz h1 H1) (Fz h' H'))) (z : dLcGo g tt te vs ρ Q ds Sd h1) : LcGo g tt te vs σ Q' J H1 := by
  obtain ⟨hn, Pv, p0, pS, pG, ps, pd⟩ := z
  obtain ⟨G, Y, wk, hG, hY⟩ := it
  have rh1 := rl1.rh
  refine lc_go wk (fun D i acc H' => ∃ dac, acc.length = dac.length ∧ H' D = some (.lst acc) ∧ Pv i dac ∧ RelH (seth h1 D (.lst dac)) H' ∧ Sm h1 H1 (seth h1 D (.lst dac)) H') ?_ ?_ ?_ ?_
  · intro D hD
    obtain ⟨r2, s2⟩ := rh1.newC (o := .lst []) (c := .lst []) hD ⟨[], upd_same, .nil⟩ (fun _ e => nomatch e)
    exact ⟨[], rfl, upd_same, p0, r2, s2⟩
  · rintro D i acc H' hi hD ⟨dac, el, eD, q, r, s⟩
    exact hG _ H' r ⟨pS D _ (rh1.no hD) pG, s⟩
  · rintro D i acc x H2 H3 hi hD hl hA ⟨dac, el, eD, q, r, s⟩ y
    have nD := rh1.no hD
    obtain ⟨d, ed, dx, r3, s3⟩ := hY i _ H2 x H3 r ⟨pS D _ nD pG, s⟩ y
    have q2 := ps D i dac d nD ed q (by omega)
    have rw1 : Rel (wipeD ρ vs) (seth h1 D (.lst dac)) (wipe σ vs) H3 := (rl1.step r3 (s.trans s3)).wipe vs
    refine q2 _ H3 x _ rw1 dx ?_
    rintro ρ4 h4 σ4 H4 ⟨rfl, q4⟩ r4 s4 l4 u4
    have hlen4 : σ4.length = σ.length := l4.trans (wipe_length σ vs)
    refine ⟨wipe_wipe hlen4 fun i hi => u4 i hi, ?_⟩
    refine q4 σ4 H4 _ r4 ?_
    rintro b h5 H5 ⟨rfl, q5⟩ r5 s5
    cases b with
    | true =>
      rw [if_pos rfl] at q5 ⊢
      refine q5 σ4 H5 _ (r4.step r5 s5) ?_
      rintro y h6 v H6 ⟨rfl, q6⟩ dy r6 s6
      obtain ⟨vs6, e6, dv6⟩ := r6.cell D _ seth_same
      have sAll : Sm (seth h1 D (.lst dac)) H2 (seth h1 D (.lst dac)) H6 := s3.trans (s4.trans (s5.trans s6))
      obtain ⟨r7, s7⟩ := r6.write (o := .lst (vs6 ++ [v])) (c := .lst (dac ++ [y])) seth_same (fun _ e => nomatch e) (fun e => nomatch e) ⟨_, upd_same, dv6.app (.one dy)⟩ (fun _ e => nomatch e)
      rw [seth_seth] at r7 s7
      refine lc_put e6 (by rw [dv6.len]; omega) (by omega) ⟨dac ++ [y], by rw [List.length_append, List.length_append, dv6.len]; rfl, upd_same, q6, r7, s.trans (sAll.trans s7)⟩
    | false =>
      rw [if_neg Bool.false_ne_true] at q5 ⊢
      obtain ⟨vs6, e6, dv6⟩ := r5.cell D _ seth_same
      exact lc_skip e6 (by rw [dv6.len]; omega) ⟨dac, dv6.len, e6, q5, r5, s.trans (s3.trans (s4.trans s5))⟩
  · rintro D acc H' hD hl ⟨dac, el, eD, q, r, s⟩ hA
    have q2 := pd dac (by omega) q
    rcases q2 with q2 | q2
    · obtain ⟨r3, s3, x3⟩ := Frz.ok (.lst (seth_same) .id) r (.ref D)
      rw [delh_seth (rh1.no hD)] at r3 s3 x3
      exact p1 _ _ _ _ q2 x3 r3 (s.trans s3)
    · exact p1 _ _ _ _ (q2 D (rh1.no hD)) (.ref D) r s
theorem d_lc {w : TI} {g : TG} {tt : TT} {te : TE} {vs : List Nat} {ρ : Rho} {h : Hs} {Q : QD} (z : dI w ρ h fun ds Sd h1 => dLcGo g tt te vs ρ Q ds Sd h1) : dE (tLc w g tt te vs) ρ h Q := fun σ H Q' rl p =>
  r_lc (z σ H _ rl fun _ _ _ _ _ q rh1 s1 it => lcgo_of (rl.step rh1 s1) (p.step s1) it q)
end GX

set_option Elab.async false
set_option linter.all false
set_option maxRecDepth 100000
set_option maxHeartbeats 4000000
namespace GX
open PySem L2 PySem.Spec PyProof.Rows
/-! ### defs and calls -/
/-- a promise about data -/
abbrev TD := List D → Hs → QD → Prop
def spD (t : TD) : Sp := fun vs H Q' _ => ∃ ds h Q, DxA (Fz h H) vs ds ∧ RelH h H ∧ t ds h Q ∧ Post h H Q Q'
def startD (N : List Str) (ds : List D) : Rho := ds.map some ++ List.replicate (N.length - ds.length) none
def endD (Q : QD) : DEnds := ⟨fun _ h => Q .non h, Q, fun _ _ => False, fun _ _ => False⟩
theorem rel_start {N : List Str} {h : Hs} {H : Hp} {vs : List V} {ds : List D} (a : DxA (Fz h H) vs ds) (r : RelH h H) : Rel (startD N ds) h (L2.start N vs) H := by
  refine ⟨r, ?_, fun i d e => ?_⟩
  · unfold startD L2.start
    simp only [List.length_append, List.length_map, List.length_replicate, a.len]
  · unfold startD at e
    unfold L2.start
    by_cases hi : i < ds.length
    · rw [List.getElem?_append_left (by simpa using hi), List.getElem?_map] at e
      rw [List.getElem?_append_left (by simpa [a.len] using hi), List.getElem?_map]
      obtain ⟨v, e1, x⟩ := a.get (List.getElem?_eq_getElem hi)
      rw [List.getElem?_eq_getElem hi] at e
      cases e
      exact ⟨v, by rw [e1]; rfl, x⟩
    · rw [List.getElem?_append_right (by simpa using hi), List.getElem?_replicate] at e
      split at e <;> cases e
section
variable {P : Program} {w : World} {K : PySem.W.Frag} {mg : Str → Option Value} {base : Heap}
theorem okD {x qual : Str} {st : Stmt} {f : Addr} {fd : FuncData} {N ps : List Str} {k : Nat} {t : TD} (F : Fun K x qual st f fd) (S : FnScope N ps (defScope st))
    (len : ∀ ds h Q, t ds h Q → ds.length = ps.length)
    (hbody : ∀ (cdv : Value) (A : Around) (outer : List Env) (s : Shared) (H : Hp) (E : XK), A.guards = some [] → Room k (A.deeper (envOfC qual (defScope st) s.heap.objs.size f cdv)) →
      ∃ tb, PSs (cxOf CX0 P w K mg base N qual (defScope st) f cdv A outer s H E).nox (defBody st) tb ∧ ∀ ds h Q, t ds h Q → dS tb (endD Q) (startD N ds) h) :
    FnG P w K mg base CX0 (k + 1) f fd ps (spD t) := by
  refine okG F S (fun vs H Q E ⟨ds, h, Q2, a, _, z, _⟩ => a.len.trans (len ds h Q2 z)) fun cdv A outer s H vs Q E hg hr ⟨ds, h, Q2, a, rh, z, p⟩ => ?_
  obtain ⟨tb, hp, q⟩ := hbody cdv A outer s H E hg hr
  refine ⟨tb, hp, q ds h Q2 z _ H _ (rel_start a rh) ⟨fun ρ' h' σ' H' q r s => p _ h' _ H' q .non r.rh s, p, fun _ _ _ _ q => q.elim, fun _ _ _ _ q => q.elim⟩⟩
/-- a promise handed down -/
theorem FnG.mapD {k : Nat} {f : Addr} {fd : FuncData} {ps : List Str} {t t' : TD} (F : FnG P w K mg base CX0 k f fd ps (spD t)) (m : ∀ ds h Q, t' ds h Q → t ds h Q) : FnG P w K mg base CX0 k f fd ps (spD t') :=
  ⟨fun vs H Q E ⟨ds, h, Q2, a, r, z, p⟩ => F.len vs H Q E ⟨ds, h, Q2, a, r, m _ _ _ z, p⟩,
   fun A outer s H args us vs Q E g hr e0 b r ⟨ds, h, Q2, a, rh, z, p⟩ => F.run A outer s H args us vs Q E g hr e0 b r ⟨ds, h, Q2, a, rh, m _ _ _ z, p⟩⟩
/-- a promise of the heap as one of data -/
theorem FnG.toD {k : Nat} {f : Addr} {fd : FuncData} {ps : List Str} {sp : Sp} {t : TD} (F : FnG P w K mg base CX0 k f fd ps sp) (m : ∀ vs H Q E, spD t vs H Q E → sp vs H Q E) : FnG P w K mg base CX0 k f fd ps (spD t) :=
  ⟨fun vs H Q E z => F.len vs H Q E (m _ _ _ _ z), fun A outer s H args us vs Q E g hr e0 b r z => F.run A outer s H args us vs Q E g hr e0 b r (m _ _ _ _ z)⟩
end
section
variable {ρ : Rho} {h : Hs} {Q : QD} {ta tb tv te : TE} {t u : TS} {E : DEnds} {a : TA} {K : PySem.W.Frag}
theorem d_call {t : TD} {XE : XK} (z : dA a ρ h fun xs h1 => t xs h1 Q) : dE (tCall (spD t) [] XE a) ρ h Q := fun σ H Q' rl p =>
  z σ H _ rl fun xs h1 vs H1 q dx rh s => ⟨xs, h1, Q, by rw [List.append_nil]; exact dx, rh, q, p.step s⟩
theorem d_callV {t : TD} {XE : XK} {dvs : List V} {dds : List D} (hd : ∀ G, DxA G dvs dds) (z : dA a ρ h fun xs h1 => t (xs ++ dds) h1 Q) : dE (tCall (spD t) dvs XE a) ρ h Q := fun σ H Q' rl p =>
  z σ H _ rl fun xs h1 vs H1 q dx rh s => ⟨xs ++ dds, h1, Q, dx.app (hd _), rh, q, p.step s⟩
/-! ### instances -/
def InsV (h : Hs) (x : D) (C : Addr) (fs : List (Str × D)) : Prop := x = .ins C fs ∨ ∃ p, x = .ref p ∧ h p = some (.ins C fs)
theorem InsV.f {C : Addr} {fs : List (Str × D)} : InsV h (.ins C fs) C fs := .inl rfl
theorem InsV.c {C p : Addr} {fs : List (Str × D)} (e : h p = some (.ins C fs)) : InsV h (.ref p) C fs := .inr ⟨p, rfl, e⟩
theorem InsV.at {H : Hp} {v : V} {x : D} {C : Addr} {fs : List (Str × D)} (i : InsV h x C fs) (r : RelH h H) (d : Dx (Fz h H) v x) :
    ∃ p dx ws, v = .ref p ∧ H p = some (.ins C dx ws) ∧ ws.map (·.1) = fs.map (·.1) ∧ DxA (Fz h H) (ws.map (·.2)) (fs.map (·.2)) := by
  rcases i with rfl | ⟨p, rfl, e⟩
  · cases d with
    | ins e a b => exact ⟨_, _, _, rfl, (fz_some e).2, a, b⟩
  · cases d
    obtain ⟨dx, ws, h1, h2, h3⟩ := r.cell p _ e
    exact ⟨p, dx, ws, rfl, h1, h2, h3⟩
theorem lookup_dx {G : Hp} : ∀ {ws : List (Str × V)} {fs : List (Str × D)} {f : Str} {y : D}, ws.map (·.1) = fs.map (·.1) → DxA G (ws.map (·.2)) (fs.map (·.2)) → fs.lookup f = some y → ∃ w, ws.lookup f = some w ∧ Dx G w y
  | [], [], _, _, _, _, e => nomatch e
  | (g, v) :: ws, (g', d) :: fs, f, y, e, a, l => by
    injection e with e1 e2
    cases a with
    | cons a1 a2 =>
      have e1 : g = g' := e1
      subst e1
      rw [List.lookup_cons] at l ⊢
      cases q : f == g with
      | true => rw [q] at l; cases l; exact ⟨v, rfl, a1⟩
      | false => rw [q] at l; exact lookup_dx e2 a2 l
  | [], _ :: _, _, _, e, _, _ => nomatch e
  | _ :: _, [], _, _, e, _, _ => nomatch e
theorem lookup_no : ∀ {ws : List (Str × V)} {fs : List (Str × D)} {f : Str}, ws.map (·.1) = fs.map (·.1) → fs.lookup f = none → ws.lookup f = none
  | [], [], _, _, _ => rfl
  | (g, v) :: ws, (g', d) :: fs, f, e, l => by
    injection e with e1 e2
    have e1 : g = g' := e1
    subst e1
    rw [List.lookup_cons] at l ⊢
    cases q : f == g with
    | true => rw [q] at l; cases l
    | false => rw [q] at l; exact lookup_no e2 l
  | [], _ :: _, _, e, _ => nomatch e
  | _ :: _, [], _, e, _ => nomatch e
def putFD (f : Str) (v : D) : List (Str × D) → List (Str × D)
  | [] => [(f, v)]
  | (g, x) :: r => if g = f then (g, v) :: r else (g, x) :: putFD f v r
theorem putF_dx {G : Hp} {f : Str} {v : V} {d : D} (hv : Dx G v d) : ∀ {ws : List (Str × V)} {fs : List (Str × D)}, ws.map (·.1) = fs.map (·.1) → DxA G (ws.map (·.2)) (fs.map (·.2)) →
    (putF f v ws).map (·.1) = (putFD f d fs).map (·.1) ∧ DxA G ((putF f v ws).map (·.2)) ((putFD f d fs).map (·.2))
  | [], [], _, _ => ⟨rfl, .cons hv .nil⟩
  | (g, w) :: ws, (g', y) :: fs, e, a => by
    injection e with e1 e2
    have e1 : g = g' := e1
    subst e1
    cases a with
    | cons a1 a2 =>
      unfold putF putFD
      by_cases q : g = f
      · rw [if_pos q, if_pos q]
        exact ⟨by rw [List.map_cons, List.map_cons, e2], .cons hv a2⟩
      · rw [if_neg q, if_neg q]
        obtain ⟨r1, r2⟩ := putF_dx hv e2 a2
        exact ⟨by rw [List.map_cons, List.map_cons, r1], .cons a1 r2⟩
  | [], _ :: _, e, _ => nomatch e
  | _ :: _, [], e, _ => nomatch e
theorem d_fld {f : Str} (z : dE ta ρ h fun x h1 => ∃ C fs y, InsV h1 x C fs ∧ Cls K C ∧ NoAttr K C f ∧ fs.lookup f = some y ∧ Q y h1) : dE (tFld K ta f) ρ h Q := fun σ H Q' rl p =>
  z σ H _ rl fun x h1 v H1 ⟨C, fs, y, i, c, n, l, q⟩ dx rh s => by
    obtain ⟨b, dx', ws, rfl, e, a1, a2⟩ := i.at rh dx
    obtain ⟨w, l2, dw⟩ := lookup_dx a1 a2 l
    exact ⟨b, C, dx', ws, w, rfl, e, c, n, l2, p y h1 w H1 q dw rh s⟩
theorem d_sfld {f : Str} (z : dE tv ρ h fun y h1 => dE ta ρ h1 fun x h2 => ∃ o C fs, x = .ref o ∧ h2 o = some (.ins C fs) ∧ Cls K C ∧ NoAttr K C f ∧ fs.length < 1000 ∧ E.nx ρ (seth h2 o (.ins C (putFD f y fs)))) : dS (sFld K ta tv f) E ρ h := fun σ H E' rl p =>
  z σ H _ rl fun y h1 v H1 q dy rh s => q σ H1 _ (rl.step rh s) fun x h2 w H2 ⟨o, C, fs, ex, e, c, n, l, q2⟩ dx rh2 s2 => by
    subst ex
    cases dx
    obtain ⟨dx', ws, e2, a1, a2⟩ := rh2.cell o _ e
    have hl : ws.length = fs.length := by
      have := congrArg List.length a1
      rwa [List.length_map, List.length_map] at this
    obtain ⟨b1, b2⟩ := putF_dx (f := f) (dy.mono s2) a1 a2
    obtain ⟨r3, s3⟩ := rh2.write (o := .ins C dx' (putF f v ws)) (c := .ins C (putFD f y fs)) e (fun _ q => nomatch q) (fun q => nomatch q) ⟨dx', _, upd_same, b1, b2⟩ (fun _ q => nomatch q)
    exact ⟨o, C, dx', ws, rfl, e2, c, n, by omega, p.nx _ _ σ _ q2 (rl.step r3 (s.trans (s2.trans s3))) (s.trans (s2.trans s3))⟩
theorem d_meth {C : Addr} {m : Str} {t : TD} {XE : XK} (z : dE ta ρ h fun x h1 => ∃ fs, InsV h1 x C fs ∧ fs.lookup m = none ∧ dA a ρ h1 fun xs h2 => t (x :: xs) h2 Q) : dE (tMeth C m (spD t) [] XE ta a) ρ h Q := fun σ H Q' rl p =>
  z σ H _ rl fun x h1 v H1 ⟨fs, i, l, q⟩ dx rh s => by
    obtain ⟨b, dx', ws, rfl, e, a1, a2⟩ := i.at rh dx
    refine ⟨b, dx', ws, rfl, e, lookup_no a1 l, q σ H1 _ (rl.step rh s) fun xs h2 vs H2 q2 dxs rh2 s2 => ?_⟩
    exact ⟨x :: xs, h2, Q, by rw [List.append_nil]; exact .cons (dx.mono s2) dxs, rh2, q2, p.step (s.trans s2)⟩
theorem d_methV {C : Addr} {m : Str} {t : TD} {XE : XK} {dvs : List V} {dds : List D} (hd : ∀ G, DxA G dvs dds) (z : dE ta ρ h fun x h1 => ∃ fs, InsV h1 x C fs ∧ fs.lookup m = none ∧ dA a ρ h1 fun xs h2 => t (x :: (xs ++ dds)) h2 Q) : dE (tMeth C m (spD t) dvs XE ta a) ρ h Q := fun σ H Q' rl p =>
  z σ H _ rl fun x h1 v H1 ⟨fs, i, l, q⟩ dx rh s => by
    obtain ⟨b, dx', ws, rfl, e, a1, a2⟩ := i.at rh dx
    refine ⟨b, dx', ws, rfl, e, lookup_no a1 l, q σ H1 _ (rl.step rh s) fun xs h2 vs H2 q2 dxs rh2 s2 => ?_⟩
    exact ⟨x :: (xs ++ dds), h2, Q, .cons (dx.mono s2) (dxs.app (hd _)), rh2, q2, p.step (s.trans s2)⟩
theorem d_make {C : Addr} {t : TD} {XE : XK} (z : dA a ρ h fun xs h1 => ∀ o, h1 o = none → t (.ref o :: xs) (seth h1 o (.ins C [])) fun v h2 => v = .non ∧ Q (.ref o) h2) : dE (tMake C (spD t) [] XE a) ρ h Q := fun σ H Q' rl p =>
  z σ H _ rl fun xs h1 vs H1 q dxs rh s o dx no ndx ne => by
    obtain ⟨r1, s1⟩ := rh.newF (o := .own o) ndx
    have no1 : upd H1 dx (.own o) o = none := by rw [upd_ne ne.symm]; exact no
    obtain ⟨r2, s2⟩ := r1.newC (o := .ins C dx []) (c := .ins C []) no1 ⟨dx, [], upd_same, rfl, .nil⟩ (fun _ q => nomatch q)
    refine ⟨.ref o :: xs, _, _, by rw [List.append_nil]; exact .cons (.ref o) (dxs.mono (s1.trans s2)), r2, q o (rh.no no), ?_⟩
    rintro d h' v H' ⟨rfl, q2⟩ dv r' s'
    cases dv
    exact ⟨rfl, p _ h' _ H' q2 (.ref o) r' (s.trans (s1.trans (s2.trans s')))⟩
/-! ### dicts -/
def dval {κ : Type} [DecidableEq κ] (kds : List (κ × D)) (k : κ) : Option D := (kds.find? fun kv => decide (kv.1 = k)).map (·.2)
def dput {κ : Type} [DecidableEq κ] (kds : List (κ × D)) (k : κ) (v : D) : List (κ × D) :=
  if (kds.any fun kv => decide (kv.1 = k)) = true then kds.map (fun kv => if kv.1 = k then (kv.1, v) else kv) else kds ++ [(k, v)]
/-- a dict's pairs -/
structure KDx {κ : Type} (G : Hp) (kvs : List (κ × V)) (kds : List (κ × D)) : Prop where
  ks : kvs.map (·.1) = kds.map (·.1)
  vs : DxA G (kvs.map (·.2)) (kds.map (·.2))
section
variable {κ : Type} [DecidableEq κ] {G : Hp}
theorem KDx.val : ∀ {kvs : List (κ × V)} {kds : List (κ × D)} {k : κ}, KDx G kvs kds → (dval kds k = none ∧ valV kvs k = none) ∨ ∃ d v, dval kds k = some d ∧ valV kvs k = some v ∧ Dx G v d
  | [], [], k, _ => .inl ⟨rfl, rfl⟩
  | (g, v) :: r, (g', d) :: r', k, z => by
    have e1 := (List.cons.inj z.ks).1
    have e2 := (List.cons.inj z.ks).2
    have e1 : g = g' := e1
    subst e1
    have a := z.vs
    cases a with
    | cons a1 a2 =>
      by_cases q : g = k
      · exact .inr ⟨d, v, by simp [dval, List.find?_cons, q], by simp [valV, List.find?_cons, q], a1⟩
      · have := KDx.val (k := k) ⟨e2, a2⟩
        have n1 : dval ((g, d) :: r') k = dval r' k := by simp [dval, List.find?_cons, q]
        have n2 : valV ((g, v) :: r) k = valV r k := by simp [valV, List.find?_cons, q]
        rw [n1, n2]
        exact this
  | [], _ :: _, _, z => nomatch z.ks
  | _ :: _, [], _, z => nomatch z.ks
theorem KDx.any {kvs : List (κ × V)} {kds : List (κ × D)} {k : κ} (z : KDx G kvs kds) : (kvs.any fun kv => decide (kv.1 = k)) = (kds.any fun kv => decide (kv.1 = k)) := by
  have e1 : (kvs.any fun kv => decide (kv.1 = k)) = (kvs.map (·.1)).any fun x => decide (x = k) := by rw [List.any_map]; rfl
  have e2 : (kds.any fun kv => decide (kv.1 = k)) = (kds.map (·.1)).any fun x => decide (x = k) := by rw [List.any_map]; rfl
  rw [e1, e2, z.ks]
theorem KDx.rep : ∀ {kvs : List (κ × V)} {kds : List (κ × D)} {k : κ} {v : V} {d : D}, KDx G kvs kds → Dx G v d →
    KDx G (kvs.map fun kv => if kv.1 = k then (kv.1, v) else kv) (kds.map fun kv => if kv.1 = k then (kv.1, d) else kv)
  | [], [], k, _, _, _, _ => ⟨rfl, .nil⟩
  | (g, u) :: r, (g', e) :: r', k, v, d, z, hv => by
    have e1 := (List.cons.inj z.ks).1
    have e2 := (List.cons.inj z.ks).2
    have e1 : g = g' := e1
    subst e1
    have a := z.vs
    cases a with
    | cons a1 a2 =>
      have ih := KDx.rep (k := k) ⟨e2, a2⟩ hv
      rw [List.map_cons, List.map_cons]
      by_cases q : g = k
      · simp only [if_pos q]
        exact ⟨by rw [List.map_cons, List.map_cons, ih.ks], by rw [List.map_cons, List.map_cons]; exact .cons hv ih.vs⟩
      · simp only [if_neg q]
        exact ⟨by rw [List.map_cons, List.map_cons, ih.ks], by rw [List.map_cons, List.map_cons]; exact .cons a1 ih.vs⟩
  | [], _ :: _, _, _, _, z, _ => nomatch z.ks
  | _ :: _, [], _, _, _, z, _ => nomatch z.ks
theorem KDx.put {kvs : List (κ × V)} {kds : List (κ × D)} {k : κ} {v : V} {d : D} (z : KDx G kvs kds) (hv : Dx G v d) : KDx G (putK kvs k v) (dput kds k d) := by
  unfold putK dput
  rw [z.any]
  split
  · exact z.rep hv
  · refine ⟨?_, ?_⟩
    · rw [List.map_append, List.map_append, z.ks]; rfl
    · rw [List.map_append, List.map_append]
      exact z.vs.app (.one hv)
theorem KDx.len {kvs : List (κ × V)} {kds : List (κ × D)} (z : KDx G kvs kds) : kvs.length = kds.length := by
  have := congrArg List.length z.ks
  rwa [List.length_map, List.length_map] at this
theorem KDx.get {kvs : List (κ × V)} {kds : List (κ × D)} (z : KDx G kvs kds) {i : Nat} {k : κ} {v : V} (e : kvs[i]? = some (k, v)) : ∃ d, kds[i]? = some (k, d) ∧ Dx G v d := by
  have e1 : (kvs.map (·.1))[i]? = some k := by rw [List.getElem?_map, e]; rfl
  have e2 : (kvs.map (·.2))[i]? = some v := by rw [List.getElem?_map, e]; rfl
  rw [z.ks, List.getElem?_map] at e1
  obtain ⟨d, e3, dx⟩ := z.vs.getV e2
  rw [List.getElem?_map] at e3
  cases q : kds[i]? with
  | none => rw [q] at e1; cases e1
  | some kd =>
    rw [q] at e1 e3
    have a : kd.1 = k := Option.some.inj e1
    have b : kd.2 = d := Option.some.inj e3
    exact ⟨d, by rw [← a, ← b], dx⟩
end
/-- a dict seen: data or a cell -/
def DkV (h : Hs) (x : D) (kds : List (Key × D)) : Prop := x = .dK kds ∨ ∃ p, x = .ref p ∧ (h p = some (.dK kds) ∨ ∃ o kvs, h p = some (.dKl o kvs kds))
def DtV (h : Hs) (x : D) (kds : List (List Key × D)) : Prop := x = .dT kds ∨ ∃ p, x = .ref p ∧ h p = some (.dT kds)
theorem DkV.f {kds : List (Key × D)} : DkV h (.dK kds) kds := .inl rfl
theorem DkV.c {p : Addr} {kds : List (Key × D)} (e : h p = some (.dK kds)) : DkV h (.ref p) kds := .inr ⟨p, rfl, .inl e⟩
theorem DkV.k {p : Addr} {o : Obj} {kvs : List (Key × V)} {kds : List (Key × D)} (e : h p = some (.dKl o kvs kds)) : DkV h (.ref p) kds := .inr ⟨p, rfl, .inr ⟨o, kvs, e⟩⟩
theorem DtV.f {kds : List (List Key × D)} : DtV h (.dT kds) kds := .inl rfl
theorem DtV.c {p : Addr} {kds : List (List Key × D)} (e : h p = some (.dT kds)) : DtV h (.ref p) kds := .inr ⟨p, rfl, e⟩
theorem un_dK {u : HO} {kvs : List (Key × V)} (e : un u = .dK kvs) : u = .dK kvs ∨ ∃ o, u = .frz o (.dK kvs) := by
  unfold un at e
  split at e
  · cases e; exact .inr ⟨_, rfl⟩
  · cases e
  · exact .inl e
theorem un_dT {u : HO} {kvs : List (List Key × V)} (e : un u = .dT kvs) : u = .dT kvs ∨ ∃ o, u = .frz o (.dT kvs) := by
  unfold un at e
  split at e
  · cases e
  · cases e; exact .inr ⟨_, rfl⟩
  · exact .inl e
theorem DkV.at {H : Hp} {v : V} {x : D} {kds : List (Key × D)} (i : DkV h x kds) (r : RelH h H) (d : Dx (Fz h H) v x) : ∃ p kvs, v = .ref p ∧ Rd H p (.dK kvs) ∧ KDx (Fz h H) kvs kds := by
  rcases i with rfl | ⟨p, rfl, e | ⟨o, kvs, e⟩⟩
  · cases d with
    | dK e u a b =>
      have e' := (fz_some e).2
      rcases un_dK u with rfl | ⟨o, rfl⟩
      · exact ⟨_, _, rfl, .inl e', a, b⟩
      · exact ⟨_, _, rfl, .inr ⟨o, e'⟩, a, b⟩
  · cases d
    obtain ⟨kvs, h1, h2, h3⟩ := r.cell p _ e
    exact ⟨p, kvs, rfl, .inl h1, h2, h3⟩
  · cases d
    obtain ⟨h1, h2, h3⟩ := r.cell p _ e
    exact ⟨p, kvs, rfl, .inr ⟨o, h1⟩, h2, h3⟩
theorem DtV.at {H : Hp} {v : V} {x : D} {kds : List (List Key × D)} (i : DtV h x kds) (r : RelH h H) (d : Dx (Fz h H) v x) : ∃ p kvs, v = .ref p ∧ Rd H p (.dT kvs) ∧ KDx (Fz h H) kvs kds := by
  rcases i with rfl | ⟨p, rfl, e⟩
  · cases d with
    | dT e u a b =>
      have e' := (fz_some e).2
      rcases un_dT u with rfl | ⟨o, rfl⟩
      · exact ⟨_, _, rfl, .inl e', a, b⟩
      · exact ⟨_, _, rfl, .inr ⟨o, e'⟩, a, b⟩
  · cases d
    obtain ⟨kvs, h1, h2, h3⟩ := r.cell p _ e
    exact ⟨p, kvs, rfl, .inl h1, h2, h3⟩
/-- what a dict says of a key -/
inductive DGetD (h : Hs) (x : D) : D → Option D → Prop
  | k {kds : List (Key × D)} {k : Key} : DkV h x kds → DGetD h x (kD k) (dval kds k)
  | t {kds : List (List Key × D)} {k : List Key} : DtV h x kds → DGetD h x (.tup (k.map kD)) (dval kds k)
theorem DGetD.at {H : Hp} {v w : V} {x y : D} {o : Option D} (i : DGetD h x y o) (r : RelH h H) (dx : Dx (Fz h H) v x) (dy : Dx (Fz h H) w y) :
    ∃ p, v = .ref p ∧ ((o = none ∧ DGet H p w none) ∨ ∃ d u, o = some d ∧ DGet H p w (some u) ∧ Dx (Fz h H) u d) := by
  cases i with
  | @k kds k i =>
    obtain ⟨p, kvs, rfl, e, z⟩ := i.at r dx
    have := dx_key_inv dy
    subst this
    refine ⟨p, rfl, ?_⟩
    rcases z.val (k := k) with ⟨e1, e2⟩ | ⟨d, u, e1, e2, du⟩
    · exact .inl ⟨e1, .inl ⟨kvs, k, e, rfl, e2.symm⟩⟩
    · exact .inr ⟨d, u, e1, .inl ⟨kvs, k, e, rfl, e2.symm⟩, du⟩
  | @t kds k i =>
    obtain ⟨p, kvs, rfl, e, z⟩ := i.at r dx
    cases dy with
    | @tup q vs _ e4 a =>
      have := dxA_keys_inv a
      subst this
      refine ⟨p, rfl, ?_⟩
      rcases z.val (k := k) with ⟨e1, e2⟩ | ⟨d, u, e1, e2, du⟩
      · exact .inl ⟨e1, .inr ⟨kvs, k, q, e, rfl, (fz_some e4).2, e2.symm⟩⟩
      · exact .inr ⟨d, u, e1, .inr ⟨kvs, k, q, e, rfl, (fz_some e4).2, e2.symm⟩, du⟩
theorem d_din (z : dE tb ρ h fun y h1 => dE ta ρ h1 fun x h2 => ∃ o, DGetD h2 x y o ∧ Q (.bl o.isSome) h2) : dE (tDIn tb ta) ρ h Q := fun σ H Q' rl p =>
  z σ H _ rl fun y h1 w H1 q dy rh s => q σ H1 _ (rl.step rh s) fun x h2 v H2 ⟨o, i, q2⟩ dx rh2 s2 => by
    obtain ⟨b, rfl, k⟩ := i.at rh2 dx (dy.mono s2)
    rcases k with ⟨rfl, g⟩ | ⟨d, u, rfl, g, _⟩
    · exact ⟨b, none, rfl, g, p _ h2 _ H2 q2 (.bl _) rh2 (s.trans s2)⟩
    · exact ⟨b, some u, rfl, g, p _ h2 _ H2 q2 (.bl _) rh2 (s.trans s2)⟩
theorem d_dnin (z : dE tb ρ h fun y h1 => dE ta ρ h1 fun x h2 => ∃ o, DGetD h2 x y o ∧ Q (.bl (!o.isSome)) h2) : dE (tDNotIn tb ta) ρ h Q := fun σ H Q' rl p =>
  z σ H _ rl fun y h1 w H1 q dy rh s => q σ H1 _ (rl.step rh s) fun x h2 v H2 ⟨o, i, q2⟩ dx rh2 s2 => by
    obtain ⟨b, rfl, k⟩ := i.at rh2 dx (dy.mono s2)
    rcases k with ⟨rfl, g⟩ | ⟨d, u, rfl, g, _⟩
    · exact ⟨b, none, rfl, g, p _ h2 _ H2 q2 (.bl _) rh2 (s.trans s2)⟩
    · exact ⟨b, some u, rfl, g, p _ h2 _ H2 q2 (.bl _) rh2 (s.trans s2)⟩
theorem d_dget (z : dE ta ρ h fun x h1 => dE tb ρ h1 fun y h2 => ∃ d, DGetD h2 x y (some d) ∧ Q d h2) : dE (tDGet ta tb) ρ h Q := fun σ H Q' rl p =>
  z σ H _ rl fun x h1 v H1 q dx rh s => q σ H1 _ (rl.step rh s) fun y h2 w H2 ⟨d, i, q2⟩ dy rh2 s2 => by
    obtain ⟨b, rfl, k⟩ := i.at rh2 (dx.mono s2) dy
    rcases k with ⟨e, _⟩ | ⟨d', u, e, g, du⟩
    · cases e
    · cases e
      exact ⟨b, u, rfl, g, p _ h2 _ H2 q2 du rh2 (s.trans s2)⟩
theorem isD_of {H : Hp} {v : V} {x : D} {kds : List (Key × D)} (i : DkV h x kds) (r : RelH h H) (d : Dx (Fz h H) v x) : ∃ p, v = .ref p ∧ IsD H p := by
  obtain ⟨p, kvs, rfl, e, _⟩ := i.at r d
  exact ⟨p, rfl, .inl ⟨kvs, e⟩⟩
theorem isD_ofT {H : Hp} {v : V} {x : D} {kds : List (List Key × D)} (i : DtV h x kds) (r : RelH h H) (d : Dx (Fz h H) v x) : ∃ p, v = .ref p ∧ IsD H p := by
  obtain ⟨p, kvs, rfl, e, _⟩ := i.at r d
  exact ⟨p, rfl, .inr ⟨kvs, e⟩⟩
/-- a dict of either kind -/
def DV (h : Hs) (x : D) : Prop := (∃ kds, DkV h x kds) ∨ ∃ kds, DtV h x kds
theorem DV.at {H : Hp} {v : V} {x : D} (i : DV h x) (r : RelH h H) (d : Dx (Fz h H) v x) : ∃ p, v = .ref p ∧ IsD H p := by
  rcases i with ⟨k, i⟩ | ⟨k, i⟩
  · exact isD_of i r d
  · exact isD_ofT i r d
theorem d_dget2 (z : dE ta ρ h fun x h1 => DV h1 x ∧ dE tb ρ h1 fun y h2 => dE te ρ h2 fun w h3 => ∃ o, DGetD h3 x y o ∧ Q (o.getD w) h3) : dE (tDGet2 ta tb te) ρ h Q := fun σ H Q' rl p =>
  z σ H _ rl fun x h1 v H1 ⟨iv, q⟩ dx rh s => by
    obtain ⟨b, rfl, id1⟩ := iv.at rh dx
    refine ⟨b, rfl, id1, q σ H1 _ (rl.step rh s) fun y h2 w H2 q2 dy rh2 s2 => q2 σ H2 _ (rl.step rh2 (s.trans s2)) fun e h3 u H3 ⟨o, i, q3⟩ de rh3 s3 => ?_⟩
    obtain ⟨b', e', k⟩ := i.at rh3 (dx.mono (s2.trans s3)) (dy.mono s3)
    cases e'
    rcases k with ⟨rfl, g⟩ | ⟨d, u2, rfl, g, du⟩
    · exact ⟨none, g, p _ h3 _ H3 q3 de rh3 (s.trans (s2.trans s3))⟩
    · exact ⟨some u2, g, p _ h3 _ H3 q3 du rh3 (s.trans (s2.trans s3))⟩
theorem d_dget1 (z : dE ta ρ h fun x h1 => DV h1 x ∧ dE tb ρ h1 fun y h2 => ∃ o, DGetD h2 x y o ∧ Q (o.getD .non) h2) : dE (tDGet1 ta tb) ρ h Q := fun σ H Q' rl p =>
  z σ H _ rl fun x h1 v H1 ⟨iv, q⟩ dx rh s => by
    obtain ⟨b, rfl, id1⟩ := iv.at rh dx
    refine ⟨b, rfl, id1, q σ H1 _ (rl.step rh s) fun y h2 w H2 ⟨o, i, q2⟩ dy rh2 s2 => ?_⟩
    obtain ⟨b', e', k⟩ := i.at rh2 (dx.mono s2) dy
    cases e'
    rcases k with ⟨rfl, g⟩ | ⟨d, u2, rfl, g, du⟩
    · exact ⟨none, g, p _ h2 _ H2 q2 .non rh2 (s.trans s2)⟩
    · exact ⟨some u2, g, p _ h2 _ H2 q2 du rh2 (s.trans s2)⟩
/-- a store -/
inductive DPutD (h : Hs) (p : Addr) : D → D → Hs → Prop
  | k {kds : List (Key × D)} {k : Key} {d : D} : h p = some (.dK kds) → kds.length ≤ 100000 → DPutD h p (kD k) d (seth h p (.dK (dput kds k d)))
  | t {kds : List (List Key × D)} {k : List Key} {d : D} : h p = some (.dT kds) → kds.length ≤ 100000 → DPutD h p (.tup (k.map kD)) d (seth h p (.dT (dput kds k d)))
theorem DPutD.at {H : Hp} {v w : V} {p : Addr} {y d : D} {h' : Hs} (i : DPutD h p y d h') (r : RelH h H) (dy : Dx (Fz h H) w y) (dd : Dx (Fz h H) v d) : ∃ H', DPut H p w v H' ∧ RelH h' H' ∧ Sm h H h' H' := by
  have big : (100000 : Nat) < sizeLine := by decide
  cases i with
  | k e l =>
    obtain ⟨kvs, h1, h2, h3⟩ := r.cell p _ e
    have z : KDx (Fz h H) kvs _ := ⟨h2, h3⟩
    have := dx_key_inv dy
    subst this
    have zz := z.put (k := ‹Key›) dd
    obtain ⟨r2, s2⟩ := r.write (o := .dK (putK kvs ‹Key› v)) (c := .dK _) e (fun _ q => nomatch q) (fun q => nomatch q) ⟨_, upd_same, zz.ks, zz.vs⟩ (fun _ q => nomatch q)
    exact ⟨_, .inl ⟨kvs, _, h1, rfl, by rw [z.len]; omega, rfl⟩, r2, s2⟩
  | @t kds k _ e l =>
    obtain ⟨kvs, h1, h2, h3⟩ := r.cell p _ e
    have z : KDx (Fz h H) kvs _ := ⟨h2, h3⟩
    cases dy with
    | @tup q vs _ e4 a =>
      have := dxA_keys_inv a
      subst this
      have zz := z.put (k := k) dd
      obtain ⟨r2, s2⟩ := r.write (o := .dT (putK kvs k v)) (c := .dT _) e (fun _ q => nomatch q) (fun q => nomatch q) ⟨_, upd_same, zz.ks, zz.vs⟩ (fun _ q => nomatch q)
      exact ⟨_, .inr ⟨kvs, k, q, h1, rfl, (fz_some e4).2, by rw [z.len]; omega, rfl⟩, r2, s2⟩
theorem d_dput (z : dE tv ρ h fun d h1 => dE ta ρ h1 fun x h2 => dE tb ρ h2 fun y h3 => ∃ o h4, x = .ref o ∧ DPutD h3 o y d h4 ∧ E.nx ρ h4) : dS (sDPut ta tb tv) E ρ h := fun σ H E' rl p =>
  z σ H _ rl fun d h1 v H1 q dd rh s => q σ H1 _ (rl.step rh s) fun x h2 u H2 q2 dx rh2 s2 => q2 σ H2 _ (rl.step rh2 (s.trans s2)) fun y h3 w H3 ⟨o, h4, ex, i, q3⟩ dy rh3 s3 => by
    subst ex
    cases dx
    obtain ⟨H4, g, r4, s4⟩ := i.at rh3 dy (dd.mono (s2.trans s3))
    have sA := s.trans (s2.trans (s3.trans s4))
    exact ⟨o, H4, rfl, g, p.nx _ _ σ _ q3 (rl.step r4 sA) sA⟩
theorem d_daug {rd : V → V → Hp → VK → Prop} (z : dE ta ρ h fun x h1 => dE tb ρ h1 fun y h2 => ∃ o c, x = .ref o ∧ DGetD h2 x y (some c) ∧ dE tv ρ h2 fun e h3 => dR2 rd c e h3 fun r h4 => ∃ h5, DPutD h4 o y r h5 ∧ E.nx ρ h5) : dS (sDAug ta tb tv rd) E ρ h := fun σ H E' rl p =>
  z σ H _ rl fun x h1 u H1 q dx rh s => q σ H1 _ (rl.step rh s) fun y h2 w H2 ⟨o, c, ex, i, q2⟩ dy rh2 s2 => by
    obtain ⟨b, rfl, k⟩ := i.at rh2 (dx.mono s2) dy
    subst ex
    cases dx
    rcases k with ⟨e, _⟩ | ⟨d', u, e, g, du⟩
    · cases e
    · cases e
      refine ⟨o, u, rfl, g, q2 σ H2 _ (rl.step rh2 (s.trans s2)) fun e h3 v3 H3 q3 de rh3 s3 => ?_⟩
      refine q3 u v3 H3 _ rh3 (du.mono s3) de fun r h4 v4 H4 ⟨h5, pt, q4⟩ dr rh4 s4 => ?_
      obtain ⟨H5, g5, r5, s5⟩ := pt.at rh4 (dy.mono (s3.trans s4)) dr
      have sA := s.trans (s2.trans (s3.trans (s4.trans s5)))
      exact ⟨H5, g5, p.nx _ _ σ _ q4 (rl.step r5 sA) sA⟩
theorem d_dnewK (z : ∀ o, h o = none → Q (.ref o) (seth h o (.dK []))) : dE tDNewK ρ h Q := fun σ H Q' rl p o no => by
  obtain ⟨r2, s2⟩ := rl.rh.newC (o := .dK []) (c := .dK []) no ⟨[], upd_same, rfl, .nil⟩ (fun _ q => nomatch q)
  exact p _ _ _ _ (z o (rl.rh.no no)) (.ref o) r2 s2
theorem d_dnewT (z : ∀ o, h o = none → Q (.ref o) (seth h o (.dT []))) : dE tDNewT ρ h Q := fun σ H Q' rl p o no => by
  obtain ⟨r2, s2⟩ := rl.rh.newC (o := .dT []) (c := .dT []) no ⟨[], upd_same, rfl, .nil⟩ (fun _ q => nomatch q)
  exact p _ _ _ _ (z o (rl.rh.no no)) (.ref o) r2 s2
theorem d_dsetd (z : dE ta ρ h fun x h1 => (∃ kds, DkV h1 x kds) ∧ dE tb ρ h1 fun y h2 => dE te ρ h2 fun w h3 => ∃ o kds k, x = .ref o ∧ h3 o = some (.dK kds) ∧ y = kD k ∧ kds.length ≤ 100000 ∧
    (∀ d, dval kds k = some d → Q d h3) ∧ (dval kds k = none → Q w (seth h3 o (.dK (dput kds k w))))) : dE (tDSetd ta tb te) ρ h Q := fun σ H Q' rl p =>
  z σ H _ rl fun x h1 v H1 ⟨⟨kds0, iv⟩, q⟩ dx rh s => by
    obtain ⟨b, rfl, id1⟩ := isD_of iv rh dx
    refine ⟨b, rfl, id1, q σ H1 _ (rl.step rh s) fun y h2 w H2 q2 dy rh2 s2 => q2 σ H2 _ (rl.step rh2 (s.trans s2)) fun e h3 u H3 ⟨o, kds, k, ex, eo, ey, l, q3, q4⟩ de rh3 s3 => ?_⟩
    subst ex
    cases dx
    rw [ey] at dy
    have := dx_key_inv dy
    subst this
    obtain ⟨kvs, c1, c2, c3⟩ := rh3.cell _ _ eo
    have zz : KDx (Fz h3 H3) kvs kds := ⟨c2, c3⟩
    have big : (100000 : Nat) < sizeLine := by decide
    refine ⟨kvs, k, c1, rfl, by rw [zz.len]; omega, ?_, ?_⟩
    · intro v0 hv0
      rcases zz.val (k := k) with ⟨e1, e2⟩ | ⟨d, u2, e1, e2, du⟩
      · rw [e2] at hv0; cases hv0
      · rw [e2] at hv0
        cases hv0
        exact p _ h3 _ H3 (q3 d e1) du rh3 (s.trans (s2.trans s3))
    · intro hv0
      rcases zz.val (k := k) with ⟨e1, e2⟩ | ⟨d, u2, e1, e2, du⟩
      · have z5 := zz.put (k := k) de
        obtain ⟨r2, s4⟩ := rh3.write (o := .dK (putK kvs k u)) (c := .dK (dput kds k e)) eo (fun _ q => nomatch q) (fun q => nomatch q) ⟨_, upd_same, z5.ks, z5.vs⟩ (fun _ q => nomatch q)
        exact p _ _ _ _ (q4 e1) (de.mono s4) r2 (s.trans (s2.trans (s3.trans s4)))
      · rw [e2] at hv0; cases hv0
/-! ### while -/
theorem d_while {c : TT} (W : Nat → Rho → Hs → Prop) (m0 : Nat) (w0 : W m0 ρ h)
    (hs : ∀ m ρ h, W m ρ h → dT c ρ h fun b h1 => if b = true then dS t { E with nx := fun ρ h => ∃ m', m' < m ∧ W m' ρ h, ct := fun ρ h => ∃ m', m' < m ∧ W m' ρ h, bk := E.nx } ρ h1 else dS tNext E ρ h1) : dS (tWhile c t) E ρ h := fun σ H E' rl p => by
  refine ⟨fun m σ' H' => ∃ ρ' h', W m ρ' h' ∧ Rel ρ' h' σ' H' ∧ Sm h H h' H', ⟨m0, ρ, h, w0, rl, Same.refl _⟩, ?_⟩
  rintro m σ1 H1 ⟨ρ1, h1, w1, r1, s1⟩
  refine hs m ρ1 h1 w1 σ1 H1 _ r1 fun b h2 H2 q rh2 s2 => ?_
  have r2 := r1.step rh2 s2
  have s02 : Sm h H h2 H2 := s1.trans s2
  cases b with
  | true =>
    refine ⟨fun σ' H' => ∃ m', m' < m ∧ ∃ ρ' h', W m' ρ' h' ∧ Rel ρ' h' σ' H' ∧ Sm h H h' H', fun σ' H' z => z, ?_⟩
    have cont : PostS h2 H2 (fun ρ h => ∃ m', m' < m ∧ W m' ρ h) (fun σ' H' => ∃ m', m' < m ∧ ∃ ρ' h', W m' ρ' h' ∧ Rel ρ' h' σ' H' ∧ Sm h H h' H') :=
      fun ρ3 h3 σ3 H3 ⟨m', l, w3⟩ r3 s3 => ⟨m', l, ρ3, h3, w3, r3, s02.trans s3⟩
    exact q σ1 H2 _ r2 ⟨cont, p.rt.step s02, p.nx.step s02, cont⟩
  | false => exact q σ1 H2 E' r2 (p.step s02)
end
end GX

set_option Elab.async false
set_option linter.all false
set_option maxRecDepth 100000
set_option maxHeartbeats 4000000
namespace GX
open PySem L2 PySem.Spec
section
variable {ρ : Rho} {h : Hs} {Q : QD} {E : DEnds} {K : PySem.W.Frag} {x y z d : D} {i j : Int} {xs ys ds es : List D}
theorem post_id {H : Hp} {Q' : VK} {v : V} (p : Post h H Q Q') (r : RelH h H) (x : Dx (Fz h H) v d) (q : Q d h) : Q' v H := p d h v H q x r (Same.refl _)
/-- a new object of data -/
theorem post_new {H : Hp} {Q' : VK} {o : HO} {a : Addr} (p : Post h H Q Q') (r : RelH h H) (n : H a = none) (x : ∀ G, Same (Fz h H) G → G a = some o → Dx G (.ref a) d) (q : Q d h) : Q' (.ref a) (upd H a o) := by
  obtain ⟨r1, s1⟩ := r.newF (o := o) n
  exact p d h _ _ q (x _ s1 (by rw [fz_new r n, upd_same])) r1 s1
theorem post_newL {H : Hp} {Q' : VK} {vs : List V} {a : Addr} (p : Post h H Q Q') (r : RelH h H) (n : H a = none) (x : DxA (Fz h H) vs ds) (q : Q (.lst ds) h) : Q' (.ref a) (upd H a (.lst vs)) :=
  post_new p r n (fun G s e => .lst e (x.mono s)) q
theorem post_newT {H : Hp} {Q' : VK} {vs : List V} {a : Addr} (p : Post h H Q Q') (r : RelH h H) (n : H a = none) (x : DxA (Fz h H) vs ds) (q : Q (.tup ds) h) : Q' (.ref a) (upd H a (.tup vs)) :=
  post_new p r n (fun G s e => .tup e (x.mono s)) q
/-- a new list as a cell -/
theorem post_newC {H : Hp} {Q' : VK} {vs : List V} {a : Addr} (p : Post h H Q Q') (r : RelH h H) (n : H a = none) (x : DxA (Fz h H) vs ds) (q : ∀ a, h a = none → Q (.ref a) (seth h a (.lst ds))) : Q' (.ref a) (upd H a (.lst vs)) := by
  obtain ⟨r1, s1⟩ := r.newC (o := .lst vs) (c := .lst ds) n ⟨vs, upd_same, x⟩ (fun _ e => nomatch e)
  exact p _ _ _ _ (q a (r.no n)) (.ref a) r1 s1
theorem Fresh.f (q : Q (.lst ds) h) : Fresh ds h Q := .inl q
theorem Fresh.c (q : ∀ a, h a = none → Q (.ref a) (seth h a (.lst ds))) : Fresh ds h Q := .inr q
theorem Fresh.post {H : Hp} {Q' : VK} {vs : List V} {a : Addr} (f : Fresh ds h Q) (p : Post h H Q Q') (r : RelH h H) (n : H a = none) (x : DxA (Fz h H) vs ds) : Q' (.ref a) (upd H a (.lst vs)) := by
  rcases f with q | q
  · exact post_newL p r n x q
  · exact post_newC p r n x q
/-- a fresh cell handed out -/
theorem Fresh.frz {a : Addr} (f : Fresh ds h Q) (n : h a = none) : ∃ y h2, Frz (seth h a (.lst ds)) (.ref a) y h2 ∧ Q y h2 := by
  rcases f with q | q
  · exact ⟨.lst ds, h, by have := Frz.lst (h := seth h a (.lst ds)) (p := a) seth_same FrzA.id; rwa [delh_seth n] at this, q⟩
  · exact ⟨_, _, .id, q a n⟩
/-! ### numbers -/
theorem v_I0i {g : Int → Int → Int} (q : Q (.int (g i j)) h) : dR2 (rI0 fun i j => .int (g i j)) (.int i) (.int j) h Q := fun v w H Q' r dx dy p => by
  cases dx; cases dy; exact ⟨i, j, rfl, rfl, post_id p r (.int _) q⟩
theorem v_I0b {g : Int → Int → Bool} (q : Q (.bl (g i j)) h) : dR2 (rI0 fun i j => .bl (g i j)) (.int i) (.int j) h Q := fun v w H Q' r dx dy p => by
  cases dx; cases dy; exact ⟨i, j, rfl, rfl, post_id p r (.bl _) q⟩
theorem v_Ii {C : Int → Int → Prop} {g : Int → Int → Int} (c : C i j) (q : Q (.int (g i j)) h) : dR2 (rI C fun i j => .int (g i j)) (.int i) (.int j) h Q := fun v w H Q' r dx dy p => by
  cases dx; cases dy; exact ⟨i, j, rfl, rfl, c, post_id p r (.int _) q⟩
theorem v_Ui {g : Int → Int} (q : Q (.int (g i)) h) : dR (rU fun i => .int (g i)) (.int i) h Q := fun v H Q' r dx p => by
  cases dx; exact ⟨i, rfl, post_id p r (.int _) q⟩
/-! ### == of scalars -/
theorem v_eqI (q : Q (.bl (decide (i = j))) h) : dR2 rEq (.int i) (.int j) h Q := fun v w H Q' r dx dy p => by
  cases dx; cases dy
  refine ⟨rfl, post_id p r (.bl _) ?_⟩
  rw [show decide (V.int i = V.int j) = decide (i = j) from by simp]; exact q
theorem v_eqS {a b : Str} (q : Q (.bl (decide (a = b))) h) : dR2 rEq (.str a) (.str b) h Q := fun v w H Q' r dx dy p => by
  cases dx; cases dy
  refine ⟨rfl, post_id p r (.bl _) ?_⟩
  rw [show decide (V.str a = V.str b) = decide (a = b) from by simp]; exact q
theorem v_eqB {a b : Bool} (q : Q (.bl (decide (a = b))) h) : dR2 rEq (.bl a) (.bl b) h Q := fun v w H Q' r dx dy p => by
  cases dx; cases dy
  refine ⟨rfl, post_id p r (.bl _) ?_⟩
  rw [show decide (V.bl a = V.bl b) = decide (a = b) from by simp]; exact q
theorem v_neI (q : Q (.bl (!decide (i = j))) h) : dR2 rNe (.int i) (.int j) h Q := fun v w H Q' r dx dy p => by
  cases dx; cases dy
  refine ⟨rfl, post_id p r (.bl _) ?_⟩
  rw [show decide (V.int i = V.int j) = decide (i = j) from by simp]; exact q
theorem v_neS {a b : Str} (q : Q (.bl (!decide (a = b))) h) : dR2 rNe (.str a) (.str b) h Q := fun v w H Q' r dx dy p => by
  cases dx; cases dy
  refine ⟨rfl, post_id p r (.bl _) ?_⟩
  rw [show decide (V.str a = V.str b) = decide (a = b) from by simp]; exact q
theorem v_neB {a b : Bool} (q : Q (.bl (!decide (a = b))) h) : dR2 rNe (.bl a) (.bl b) h Q := fun v w H Q' r dx dy p => by
  cases dx; cases dy
  refine ⟨rfl, post_id p r (.bl _) ?_⟩
  rw [show decide (V.bl a = V.bl b) = decide (a = b) from by simp]; exact q
def isNonD : D → Bool
  | .non => true
  | _ => false
theorem isNonD_v {G : Hp} {v : V} (dx : Dx G v x) : decide (v = .non) = isNonD x := by cases dx <;> simp [isNonD]
theorem v_isN (q : Q (.bl (isNonD x)) h) : dR2 (fun x y H Q => y = .non ∧ Q (.bl (decide (x = .non))) H) x .non h Q := fun v w H Q' r dx dy p => by
  cases dy
  exact ⟨rfl, post_id p r (.bl _) (by rw [isNonD_v dx]; exact q)⟩
theorem v_notN (q : Q (.bl (!isNonD x)) h) : dR2 (fun x y H Q => y = .non ∧ Q (.bl (!decide (x = .non))) H) x .non h Q := fun v w H Q' r dx dy p => by
  cases dy
  exact ⟨rfl, post_id p r (.bl _) (by rw [isNonD_v dx]; exact q)⟩
/-! ### lists seen -/
def LsV (h : Hs) (x : D) (ds : List D) : Prop := x = .lst ds ∨ ∃ p, x = .ref p ∧ h p = some (.lst ds)
theorem LsV.f : LsV h (.lst ds) ds := .inl rfl
theorem LsV.c {p : Addr} (e : h p = some (.lst ds)) : LsV h (.ref p) ds := .inr ⟨p, rfl, e⟩
theorem LsV.at {H : Hp} {v : V} (i : LsV h x ds) (r : RelH h H) (d : Dx (Fz h H) v x) : ∃ p vs, v = .ref p ∧ H p = some (.lst vs) ∧ DxA (Fz h H) vs ds := by
  rcases i with rfl | ⟨p, rfl, e⟩
  · cases d with
    | lst e a => exact ⟨_, _, rfl, (fz_some e).2, a⟩
  · cases d
    obtain ⟨vs, h1, h2⟩ := r.cell p _ e
    exact ⟨p, vs, rfl, h1, h2⟩
theorem tup_at {H : Hp} {v : V} (d : Dx (Fz h H) v (.tup ds)) : ∃ p vs, v = .ref p ∧ H p = some (.tup vs) ∧ DxA (Fz h H) vs ds := by
  cases d with
  | tup e a => exact ⟨_, _, rfl, (fz_some e).2, a⟩
theorem atI_dx {G : Hp} {vs : List V} (a : DxA G vs ds) (e : atI ds i = some d) : ∃ v, atI vs i = some v ∧ Dx G v d := by
  unfold atI at e ⊢
  rw [a.len]
  cases q : ixN ds.length i with
  | none => rw [q] at e; cases e
  | some j => rw [q] at e; exact a.get e
theorem v_ixL (hv : LsV h x ds) (e : atI ds i = some d) (q : Q d h) : dR2 (rIxL K) x (.int i) h Q := fun v w H Q' r dx dy p => by
  cases dy
  obtain ⟨a, vs, rfl, e1, a1⟩ := hv.at r dx
  obtain ⟨u, e2, du⟩ := atI_dx a1 e
  exact ⟨a, vs, i, u, rfl, rfl, .of e1, e2, post_id p r du q⟩
theorem v_ixT (e : atI ds i = some d) (q : Q d h) : dR2 (rIxT K) (.tup ds) (.int i) h Q := fun v w H Q' r dx dy p => by
  cases dy
  obtain ⟨a, vs, rfl, e1, a1⟩ := tup_at dx
  obtain ⟨u, e2, du⟩ := atI_dx a1 e
  exact ⟨a, vs, i, u, rfl, rfl, .of e1, e2, post_id p r du q⟩
theorem v_ixS {s : Str} {c : Nat} (hl : s.length ≤ 1000000) (e : atI s.cps.toList i = some c) (q : Q (.str ⟨#[c]⟩) h) : dR2 rIxS (.str s) (.int i) h Q := fun v w H Q' r dx dy p => by
  cases dx; cases dy
  exact ⟨s, i, c, rfl, rfl, Nat.le_trans hl (by decide), e, post_id p r (.str _) q⟩
theorem v_ix1 (z : dR2 (rIxL K) x y h Q) : dR2 (rIx K) x y h Q := fun v w H Q' r dx dy p => .inl (z v w H Q' r dx dy p)
theorem v_ix2 (z : dR2 (rIxT K) x y h Q) : dR2 (rIx K) x y h Q := fun v w H Q' r dx dy p => .inr (.inl (z v w H Q' r dx dy p))
theorem v_ix3 (z : dR2 rIxS x y h Q) : dR2 (rIx K) x y h Q := fun v w H Q' r dx dy p => .inr (.inr (z v w H Q' r dx dy p))
/-- xs[i] = v as a target -/
theorem g_sub {to ti : TE} {N : Rho → Hs → Prop} (z : dE to ρ h fun o h1 => dE ti ρ h1 fun k h2 => ∃ p ds i j, o = .ref p ∧ k = .int i ∧ h2 p = some (.lst ds) ∧ ixN ds.length i = some j ∧ N ρ (seth h2 p (.lst (ds.set j x)))) : dG [] (gSub to ti rSetL) x ρ h N := fun σ H v N' rl dv p =>
  z σ H _ rl fun o h1 u H1 q du rh s => q σ H1 _ (rl.step rh s) fun k h2 w H2 ⟨b, ds, i, j, eo, ek, e, ej, q2⟩ dw rh2 s2 => by
    subst eo ek
    cases du; cases dw
    obtain ⟨vs, e1, a1⟩ := rh2.cell b _ e
    obtain ⟨r3, s3⟩ := rh2.write (o := .lst (vs.set j v)) (c := .lst (ds.set j x)) e (fun _ q => nomatch q) (fun q => nomatch q) ⟨_, upd_same, a1.set (dv.mono (s.trans s2)) j⟩ (fun _ q => nomatch q)
    exact ⟨b, vs, i, j, rfl, rfl, e1, by rw [a1.len]; exact ej, p _ _ σ _ q2 (rl.step r3 (s.trans (s2.trans s3))) (s.trans (s2.trans s3)) rfl fun _ _ => rfl⟩
/-! ### slices -/
def dO (t : TO) (ρ : Rho) (h : Hs) (R : Option Int → Hs → Prop) : Prop := ∀ σ H (R' : Option Int → Hp → Prop), Rel ρ h σ H → (∀ i h' H', R i h' → RelH h' H' → Sm h H h' H' → R' i H') → t σ H R'
def dRS (r : V → Option Int → Option Int → Hp → VK → Prop) (x : D) (l u : Option Int) (h : Hs) (Q : QD) : Prop := ∀ v H Q', RelH h H → Dx (Fz h H) v x → Post h H Q Q' → r v l u H Q'
theorem d_part {te : TE} {R : Option Int → Hs → Prop} (z : dE te ρ h fun x h1 => ∃ i, x = .int i ∧ R (some i) h1) : dO (tPart te) ρ h R := fun σ H R' rl p =>
  z σ H _ rl fun x h1 v H1 q dx rh s => by obtain ⟨i, rfl, q⟩ := q; cases dx; exact ⟨i, rfl, p _ h1 H1 q rh s⟩
theorem d_nopart {R : Option Int → Hs → Prop} (z : R none h) : dO tNoPart ρ h R := fun σ H R' rl p => p none h H z rl.rh (Same.refl _)
theorem d_sl {f : V → Option Int → Option Int → Hp → VK → Prop} {te : TE} {tl th : TO} (z : dE te ρ h fun x h1 => dO tl ρ h1 fun l h2 => dO th ρ h2 fun u h3 => dRS f x l u h3 Q) : dE (tSl f te tl th) ρ h Q := fun σ H Q' rl p =>
  z σ H _ rl fun x h1 v H1 q dx rh s => q σ H1 _ (rl.step rh s) fun l h2 H2 q2 rh2 s2 => q2 σ H2 _ (rl.step rh2 (s.trans s2)) fun u h3 H3 q3 rh3 s3 => q3 v H3 Q' rh3 (dx.mono (s2.trans s3)) (p.step (s.trans (s2.trans s3)))
def dcut {α : Type} (xs : List α) (lo hi : Option Int) : List α := (xs.drop (HT.sIx xs.length 0 lo)).take (HT.sIx xs.length xs.length hi - HT.sIx xs.length 0 lo)
theorem dcut_dx {G : Hp} {vs : List V} (a : DxA G vs ds) (l u : Option Int) : DxA G (cutV vs l u) (dcut ds l u) := by
  unfold cutV dcut
  rw [a.len]
  exact (a.drop _).take _
theorem v_slL {l u : Option Int} (hv : LsV h x ds) (q : Fresh (dcut ds l u) h Q) : dRS (rSlL K) x l u h Q := fun v H Q' r dx p => by
  obtain ⟨a, vs, rfl, e1, a1⟩ := hv.at r dx
  exact ⟨a, vs, rfl, .of e1, fun b nb => q.post p r nb (dcut_dx a1 l u)⟩
theorem v_slA {l u : Option Int} (q : Q (.tup (dcut ds l u)) h) : dRS (rSlA K) (.tup ds) l u h Q := fun v H Q' r dx p => by
  obtain ⟨a, vs, rfl, e1, a1⟩ := tup_at dx
  refine ⟨a, vs, rfl, .of e1, fun hw => ?_, fun _ b nb => post_newT p r nb (dcut_dx a1 l u) q⟩
  have : dcut ds l u = ds := by
    rw [a1.len] at hw
    unfold dcut
    rw [hw.1, hw.2, List.drop_zero, Nat.sub_zero, List.take_length]
  rw [this] at q
  exact post_id p r dx q
theorem v_slS {l u : Option Int} {s : Str} (hl : s.length ≤ 1000000) (q : Q (.str (cutS s l u)) h) : dRS rSlS (.str s) l u h Q := fun v H Q' r dx p => by
  cases dx
  exact ⟨s, rfl, Nat.le_trans hl (by decide), post_id p r (.str _) q⟩
/-! ### in -/
def SqV (h : Hs) (x : D) (ds : List D) : Prop := LsV h x ds ∨ x = .tup ds
theorem SqV.at {H : Hp} {v : V} (i : SqV h x ds) (r : RelH h H) (d : Dx (Fz h H) v x) : ∃ p vs, v = .ref p ∧ (SqL K H p vs ∨ SqT K H p vs) ∧ DxA (Fz h H) vs ds := by
  rcases i with i | rfl
  · obtain ⟨p, vs, rfl, e, a⟩ := i.at r d
    exact ⟨p, vs, rfl, .inl (.of e), a⟩
  · obtain ⟨p, vs, rfl, e, a⟩ := tup_at d
    exact ⟨p, vs, rfl, .inr (.of e), a⟩
theorem SqV.l : SqV h (.lst ds) ds := .inl .f
theorem SqV.c {p : Addr} (e : h p = some (.lst ds)) : SqV h (.ref p) ds := .inl (.c e)
theorem SqV.t : SqV h (.tup ds) ds := .inr rfl
theorem v_inS {neg : Bool} {a : Str} {zs : List Str} (hv : SqV h x (zs.map .str)) (q : Q (.bl (if neg then !decide (a ∈ zs) else decide (a ∈ zs))) h) : dR2 (rIn K neg) (.str a) x h Q := fun v w H Q' r dx dy p => by
  cases dx
  obtain ⟨b, vs, rfl, e1, a1⟩ := hv.at r dy
  have := a1.strs_inv
  subst this
  exact ⟨b, _, rfl, e1, rfl, flat_strs zs, post_id p r (.bl _) (by rw [inV_strs]; exact q)⟩
theorem inV_ints (z : Int) (zs : List Int) : inV (.int z) (zs.map V.int) = decide (z ∈ zs) := by
  unfold inV
  rw [List.any_map]
  by_cases h : z ∈ zs
  · rw [decide_eq_true h]
    exact List.any_eq_true.mpr ⟨z, h, by simp [eqV]⟩
  · rw [decide_eq_false h]
    refine List.any_eq_false.mpr fun y hy => ?_
    have : ¬ y = z := fun q => h (q ▸ hy)
    simp [eqV, this]
theorem flat_ints (zs : List Int) : (zs.map V.int).all flatV = true := by
  rw [List.all_map]
  exact List.all_eq_true.mpr fun _ _ => rfl
theorem v_inI {neg : Bool} {a : Int} {zs : List Int} (hv : SqV h x (zs.map .int)) (q : Q (.bl (if neg then !decide (a ∈ zs) else decide (a ∈ zs))) h) : dR2 (rIn K neg) (.int a) x h Q := fun v w H Q' r dx dy p => by
  cases dx
  obtain ⟨b, vs, rfl, e1, a1⟩ := hv.at r dy
  have := a1.ints_inv
  subst this
  exact ⟨b, _, rfl, e1, rfl, flat_ints zs, post_id p r (.bl _) (by rw [inV_ints]; exact q)⟩
theorem v_inSign {c : Nat} {s : Str} (q : Q (.bl (decide (c ∈ s.cps.toList))) h) : dR2 (fun x y H Q => ∃ (c : Nat) (z : Str), x = .str ⟨#[c]⟩ ∧ y = .str z ∧ Q (.bl (decide (c ∈ z.cps.toList))) H) (.str ⟨#[c]⟩) (.str s) h Q := fun v w H Q' r dx dy p => by
  cases dx; cases dy
  exact ⟨c, s, rfl, rfl, post_id p r (.bl _) q⟩
/-! ### lengths, lists made of others -/
theorem v_lenQ (hv : SqV h x ds) (q : Q (.int ds.length) h) : dRA (rLenQ K) [x] h Q := fun vs H Q' r dx p => by
  cases dx with
  | cons dx dn =>
    cases dn
    obtain ⟨b, vs, rfl, e1, a1⟩ := hv.at r dx
    exact ⟨b, vs, rfl, e1, post_id p r (.int _) (by rw [a1.len]; exact q)⟩
theorem v_lenG (hv : SqV h x ds) (q : Q (.int ds.length) h) : dRA (rLenG K) [x] h Q := fun vs H Q' r dx p => by
  cases dx with
  | cons dx dn =>
    cases dn
    obtain ⟨b, vs, rfl, e1, a1⟩ := SqV.at (K := K) hv r dx
    refine ⟨_, vs.length, rfl, ?_, post_id p r (.int _) (by rw [a1.len]; exact q)⟩
    rcases e1 with e1 | e1
    · exact .inl ⟨vs, e1, rfl⟩
    · exact .inr ⟨vs, e1, rfl⟩
theorem v_lenGS {s : Str} (hl : s.length ≤ 1000000) (q : Q (.int s.length) h) : dRA (rLenG K) [.str s] h Q := fun vs H Q' r dx p => by
  cases dx with
  | cons dx dn =>
    cases dn; cases dx
    exact ⟨_, s.length, rfl, ⟨Nat.le_trans hl (by decide), rfl⟩, post_id p r (.int _) q⟩
theorem v_lenD {kds : List (Key × D)} (hv : DkV h x kds) (hu : ∀ H (v : V), RelH h H → Dx (Fz h H) v x → ∃ p kvs, v = .ref p ∧ H p = some (.dK kvs) ∧ kvs.length = kds.length) (q : Q (.int kds.length) h) : dRA rLenD [x] h Q := fun vs H Q' r dx p => by
  cases dx with
  | cons dx dn =>
    cases dn
    obtain ⟨b, kvs, rfl, e, l⟩ := hu H _ r dx
    exact ⟨b, kvs, rfl, e, post_id p r (.int _) (by rw [l]; exact q)⟩
theorem dkc_len {p : Addr} {kds : List (Key × D)} (e : h p = some (.dK kds)) : ∀ H (v : V), RelH h H → Dx (Fz h H) v (.ref p) → ∃ p kvs, v = .ref p ∧ H p = some (.dK kvs) ∧ kvs.length = kds.length := fun H v r d => by
  cases d
  obtain ⟨kvs, h1, h2, h3⟩ := r.cell p _ e
  exact ⟨p, kvs, rfl, h1, KDx.len ⟨h2, h3⟩⟩
theorem v_lenS {s : Str} (hl : s.length ≤ 1000000) (q : Q (.int s.length) h) : dRA (fun xs H Q => ∃ z, xs = [.str z] ∧ z.length ≤ sizeLine ∧ Q (.int z.length) H) [.str s] h Q := fun vs H Q' r dx p => by
  cases dx with
  | cons dx dn =>
    cases dn; cases dx
    exact ⟨s, rfl, Nat.le_trans hl (by decide), post_id p r (.int _) q⟩
theorem v_listOf (hv : SqV h x ds) (q : Fresh ds h Q) : dRA (rListOf K) [x] h Q := fun vs H Q' r dx p => by
  cases dx with
  | cons dx dn =>
    cases dn
    obtain ⟨b, vs, rfl, e1, a1⟩ := hv.at r dx
    exact ⟨b, vs, rfl, e1, fun l nl => q.post p r nl a1⟩
theorem v_tupOf (hv : SqV h x ds) (q : Q (.tup ds) h) : dRA (rTupOf K) [x] h Q := fun vs H Q' r dx p => by
  cases dx with
  | cons dx dn =>
    cases dn
    rcases hv with i | rfl
    · obtain ⟨b, vs, rfl, e, a1⟩ := i.at r dx
      exact ⟨b, vs, rfl, .inl ⟨.of e, fun l nl => post_newT p r nl a1 q⟩⟩
    · obtain ⟨b, vs, rfl, e, a1⟩ := tup_at dx
      exact ⟨b, vs, rfl, .inr ⟨.of e, post_id p r dx q⟩⟩
theorem v_sum {ns : List Int} (hv : LsV h x (ns.map .int)) (q : Q (.int ns.sum) h) : dRA (rSum K) [x] h Q := fun vs H Q' r dx p => by
  cases dx with
  | cons dx dn =>
    cases dn
    obtain ⟨b, vs, rfl, e1, a1⟩ := hv.at r dx
    have := a1.ints_inv
    subst this
    exact ⟨b, ns, rfl, .of e1, post_id p r (.int _) q⟩
theorem v_all {bs : List Bool} (hv : LsV h x (bs.map .bl)) (q : Q (.bl (bs.all id)) h) : dRA (rAll K) [x] h Q := fun vs H Q' r dx p => by
  cases dx with
  | cons dx dn =>
    cases dn
    obtain ⟨b, vs, rfl, e1, a1⟩ := hv.at r dx
    have := a1.bls_inv
    subst this
    exact ⟨b, bs, rfl, .of e1, post_id p r (.bl _) q⟩
theorem v_any {bs : List Bool} (hv : LsV h x (bs.map .bl)) (q : Q (.bl (bs.any id)) h) : dRA (rAny K) [x] h Q := fun vs H Q' r dx p => by
  cases dx with
  | cons dx dn =>
    cases dn
    obtain ⟨b, vs, rfl, e1, a1⟩ := hv.at r dx
    have := a1.bls_inv
    subst this
    exact ⟨b, bs, rfl, .of e1, post_id p r (.bl _) q⟩
theorem v_sortedI {ns : List Int} (hv : LsV h x (ns.map .int)) (q : ∀ ms : List Int, ms.Perm ns → ms.Pairwise (· ≤ ·) → Fresh (ms.map .int) h Q) : dRA (rSortedI K) [x] h Q := fun vs H Q' r dx p => by
  cases dx with
  | cons dx dn =>
    cases dn
    obtain ⟨b, vs, rfl, e1, a1⟩ := hv.at r dx
    have := a1.ints_inv
    subst this
    exact ⟨b, ns, rfl, .of e1, fun ms l pm pw nl => (q ms pm pw).post p r nl (DxA.ints ms)⟩
theorem v_max2 (q : Q (.int (if j > i then j else i)) h) : dRA (fun xs H Q => ∃ i j, xs = [.int i, .int j] ∧ Q (.int (if j > i then j else i)) H) [.int i, .int j] h Q := fun vs H Q' r dx p => by
  cases dx with
  | cons d1 dx =>
    cases dx with
    | cons d2 dx => cases dx; cases d1; cases d2; exact ⟨i, j, rfl, post_id p r (.int _) q⟩
theorem v_min2 (q : Q (.int (if j < i then j else i)) h) : dRA (fun xs H Q => ∃ i j, xs = [.int i, .int j] ∧ Q (.int (if j < i then j else i)) H) [.int i, .int j] h Q := fun vs H Q' r dx p => by
  cases dx with
  | cons d1 dx =>
    cases dx with
    | cons d2 dx => cases dx; cases d1; cases d2; exact ⟨i, j, rfl, post_id p r (.int _) q⟩
theorem v_int1 (q : Q (.int i) h) : dRA (fun xs H Q => (∃ i, xs = [.int i] ∧ Q (.int i) H) ∨ ∃ k, xs = [.bl k] ∧ Q (.int (if k then 1 else 0)) H) [.int i] h Q := fun vs H Q' r dx p => by
  cases dx with
  | cons d1 dx => cases dx; cases d1; exact .inl ⟨i, rfl, post_id p r (.int _) q⟩
theorem v_int1b {k : Bool} (q : Q (.int (if k then 1 else 0)) h) : dRA (fun xs H Q => (∃ i, xs = [.int i] ∧ Q (.int i) H) ∨ ∃ k, xs = [.bl k] ∧ Q (.int (if k then 1 else 0)) H) [.bl k] h Q := fun vs H Q' r dx p => by
  cases dx with
  | cons d1 dx => cases dx; cases d1; exact .inr ⟨k, rfl, post_id p r (.int _) q⟩
theorem v_abs (q : Q (.int (if i < 0 then -i else i)) h) : dRA (fun xs H Q => ∃ i, xs = [.int i] ∧ Q (.int (if i < 0 then -i else i)) H) [.int i] h Q := fun vs H Q' r dx p => by
  cases dx with
  | cons d1 dx => cases dx; cases d1; exact ⟨i, rfl, post_id p r (.int _) q⟩
/-! ### texts -/
theorem v_addS {a b : Str} (hl : a.length + b.length ≤ 1000000) (q : Q (.str (a ++ b)) h) : dR2 (fun x y H Q => ∃ i j, x = .str i ∧ y = .str j ∧ i.length + j.length ≤ sizeLine ∧ Q (.str (i ++ j)) H) (.str a) (.str b) h Q := fun v w H Q' r dx dy p => by
  cases dx; cases dy
  exact ⟨a, b, rfl, rfl, Nat.le_trans hl (by decide), post_id p r (.str _) q⟩
theorem d_M1 {f : V → List V → Hp → VK → Prop} {to te : TE} (z : dE to ρ h fun x h1 => ∃ a, x = .str a ∧ dE te ρ h1 fun y h2 => dRM f (.str a) [y] h2 Q) : dE (tM1 f to te) ρ h Q := fun σ H Q' rl p =>
  z σ H _ rl fun x h1 v H1 ⟨a, ex, q⟩ dx rh s => by
    subst ex; cases dx
    exact ⟨⟨a, rfl⟩, q σ H1 _ (rl.step rh s) fun y h2 w H2 q2 dy rh2 s2 => q2 _ _ H2 Q' rh2 (.str a) (.one dy) (p.step (s.trans s2))⟩
theorem d_M0 {f : V → List V → Hp → VK → Prop} {to : TE} (z : dE to ρ h fun x h1 => ∃ a, x = .str a ∧ dRM f (.str a) [] h1 Q) : dE (tM0 f to) ρ h Q := fun σ H Q' rl p =>
  z σ H _ rl fun x h1 v H1 ⟨a, ex, q⟩ dx rh s => by
    subst ex; cases dx
    exact ⟨⟨a, rfl⟩, q _ _ H1 Q' rh (.str a) .nil (p.step s)⟩
theorem v_join {a : Str} {zs : List Str} (hv : SqV h x (zs.map .str)) (hl : (zs.map (·.length)).sum + zs.length * a.length ≤ 16777216) (q : Q (.str (Txt.join a zs)) h) : dRM (rJoin K) (.str a) [x] h Q := fun v vs H Q' r dx dxs p => by
  cases dx
  cases dxs with
  | cons d1 d2 =>
    cases d2
    obtain ⟨b, vs, rfl, e1, a1⟩ := SqV.at (K := K) hv r d1
    have := a1.strs_inv
    subst this
    exact ⟨a, b, zs, rfl, rfl, e1, hl, post_id p r (.str _) q⟩
/-! ### methods of lists -/
theorem d_BML {T : String} {f : V → List V → Hp → VK → Prop} {to : TE} {t : TA} (hT : T = "list") (z : dE to ρ h fun x h1 => (∃ ds, LsV h1 x ds) ∧ dA t ρ h1 fun xs h2 => dRM f x xs h2 Q) : dE (tBM K T f to t) ρ h Q := fun σ H Q' rl p =>
  z σ H _ rl fun x h1 v H1 ⟨⟨ds, i⟩, q⟩ dx rh s => by
    obtain ⟨b, vs, rfl, e1, a1⟩ := i.at rh dx
    exact ⟨.inl ⟨hT, vs, .of e1⟩, q σ H1 _ (rl.step rh s) fun xs h2 ws H2 q2 dxs rh2 s2 => q2 _ ws H2 Q' rh2 (dx.mono s2) dxs (p.step (s.trans s2))⟩
theorem d_BML0 {T : String} {f : V → List V → Hp → VK → Prop} {to : TE} (hT : T = "list") (z : dE to ρ h fun x h1 => (∃ ds, LsV h1 x ds) ∧ dRM f x [] h1 Q) : dE (tBM0 K T f to) ρ h Q := fun σ H Q' rl p =>
  z σ H _ rl fun x h1 v H1 ⟨⟨ds, i⟩, q⟩ dx rh s => by
    obtain ⟨b, vs, rfl, e1, a1⟩ := i.at rh dx
    exact ⟨.inl ⟨hT, vs, .of e1⟩, q _ [] H1 Q' rh dx .nil (p.step s)⟩
theorem v_app {a : Addr} (e : h a = some (.lst xs)) (hl : xs.length ≤ 1000000) (q : Q .non (seth h a (.lst (xs ++ [y])))) : dRM rAppend (.ref a) [y] h Q := fun v vs H Q' r dx dxs p => by
  cases dx
  cases dxs with
  | cons d1 d2 =>
    cases d2
    obtain ⟨us, e1, a1⟩ := r.cell a _ e
    obtain ⟨r3, s3⟩ := r.write (o := .lst (us ++ [_])) (c := .lst (xs ++ [y])) e (fun _ q => nomatch q) (fun q => nomatch q) ⟨_, upd_same, a1.app (.one d1)⟩ (fun _ q => nomatch q)
    exact ⟨a, us, _, rfl, rfl, e1, Nat.lt_of_le_of_lt (by rw [a1.len]; exact hl) (by decide), p _ _ _ _ q .non r3 s3⟩
theorem v_insert {a : Addr} (e : h a = some (.lst xs)) (hl : xs.length ≤ 1000000) (h0 : 0 ≤ i ∧ i < 2 ^ 63) (q : Q .non (seth h a (.lst (xs.take i.toNat ++ [y] ++ xs.drop i.toNat)))) : dRM rInsert (.ref a) [.int i, y] h Q := fun v vs H Q' r dx dxs p => by
  cases dx
  cases dxs with
  | cons d1 d2 =>
    cases d1
    cases d2 with
    | cons d2 d3 =>
      cases d3
      obtain ⟨us, e1, a1⟩ := r.cell a _ e
      obtain ⟨r3, s3⟩ := r.write (o := .lst (us.take i.toNat ++ [_] ++ us.drop i.toNat)) (c := .lst (xs.take i.toNat ++ [y] ++ xs.drop i.toNat)) e (fun _ q => nomatch q) (fun q => nomatch q) ⟨_, upd_same, ((a1.take _).app (.one d2)).app (a1.drop _)⟩ (fun _ q => nomatch q)
      exact ⟨a, us, i, _, rfl, rfl, e1, Nat.lt_of_le_of_lt (by rw [a1.len]; exact hl) (by decide), h0.1, h0.2, p _ _ _ _ q .non r3 s3⟩
theorem v_extend {a : Addr} (e : h a = some (.lst xs)) (hv : LsV h y ys) (hl : xs.length + ys.length ≤ 1000000) (q : Q .non (seth h a (.lst (xs ++ ys)))) : dRM rExtend (.ref a) [y] h Q := fun v vs H Q' r dx dxs p => by
  cases dx
  cases dxs with
  | cons d1 d2 =>
    cases d2
    obtain ⟨us, e1, a1⟩ := r.cell a _ e
    obtain ⟨b, ws, rfl, e2, a2⟩ := hv.at r d1
    obtain ⟨r3, s3⟩ := r.write (o := .lst (us ++ ws)) (c := .lst (xs ++ ys)) e (fun _ q => nomatch q) (fun q => nomatch q) ⟨_, upd_same, a1.app a2⟩ (fun _ q => nomatch q)
    exact ⟨a, b, us, ws, rfl, rfl, e1, e2, Nat.le_trans (by rw [a1.len, a2.len]; exact hl) (by decide), p _ _ _ _ q .non r3 s3⟩
theorem v_clear {a : Addr} (e : h a = some (.lst xs)) (q : Q .non (seth h a (.lst []))) : dRM rClear (.ref a) [] h Q := fun v vs H Q' r dx dxs p => by
  cases dx; cases dxs
  obtain ⟨us, e1, a1⟩ := r.cell a _ e
  obtain ⟨r3, s3⟩ := r.write (o := .lst []) (c := .lst []) e (fun _ q => nomatch q) (fun q => nomatch q) ⟨_, upd_same, .nil⟩ (fun _ q => nomatch q)
  exact ⟨a, us, rfl, rfl, e1, p _ _ _ _ q .non r3 s3⟩
theorem eqV_int (a b : Int) : eqV (.int a) (.int b) = decide (a = b) := by simp [eqV, Bool.beq_eq_decide_eq]
theorem eqV_str (a b : Str) : eqV (.str a) (.str b) = decide (a = b) := by simp [eqV, Bool.beq_eq_decide_eq]
theorem v_indexI {ns : List Int} {n : Nat} (hv : LsV h x (ns.map .int)) (e : ns[n]? = some i) (nd : ∀ m, m < n → ns[m]? ≠ some i) (q : Q (.int (n : Int)) h) : dRM (rIndex K) x [.int i] h Q := fun v vs H Q' r dx dxs p => by
  cases dxs with
  | cons d1 d2 =>
    cases d2; cases d1
    obtain ⟨b, ws, rfl, e2, a2⟩ := hv.at r dx
    have := a2.ints_inv
    subst this
    refine ⟨b, _, .int i, n, .int i, rfl, rfl, .of e2, rfl, flat_ints ns, by rw [List.getElem?_map, e]; rfl, by simp [eqV], fun m z' hm hz => ?_, post_id p r (.int _) q⟩
    obtain ⟨a, ea, rfl⟩ := get_map hz
    rw [eqV_int]
    exact decide_eq_false fun k => nd m hm (by rw [ea, k])
theorem v_indexS {ns : List Str} {n : Nat} {s : Str} (hv : LsV h x (ns.map .str)) (e : ns[n]? = some s) (nd : ∀ m, m < n → ns[m]? ≠ some s) (q : Q (.int (n : Int)) h) : dRM (rIndex K) x [.str s] h Q := fun v vs H Q' r dx dxs p => by
  cases dxs with
  | cons d1 d2 =>
    cases d2; cases d1
    obtain ⟨b, ws, rfl, e2, a2⟩ := hv.at r dx
    have := a2.strs_inv
    subst this
    refine ⟨b, _, .str s, n, .str s, rfl, rfl, .of e2, rfl, flat_strs ns, by rw [List.getElem?_map, e]; rfl, by simp [eqV], fun m z' hm hz => ?_, post_id p r (.int _) q⟩
    obtain ⟨a, ea, rfl⟩ := get_map hz
    rw [eqV_str]
    exact decide_eq_false fun k => nd m hm (by rw [ea, k])
/-! ### + and * of lists and tuples -/
theorem v_cat (hx : LsV h x xs) (hy : LsV h y ys) (hl : xs.length + ys.length ≤ 1000000) (q : Fresh (xs ++ ys) h Q) : dR2 rCat x y h Q := fun v w H Q' r dx dy p => by
  obtain ⟨a, us, rfl, e1, a1⟩ := hx.at r dx
  obtain ⟨b, ws, rfl, e2, a2⟩ := hy.at r dy
  exact ⟨a, b, us, ws, rfl, rfl, e1, e2, Nat.le_trans (by rw [a1.len, a2.len]; exact hl) (by decide), fun l nl => q.post p r nl (a1.app a2)⟩
theorem v_catA (hl : xs.length + ys.length ≤ 1000000) (q : Q (.tup (xs ++ ys)) h) : dR2 (rCatA K) (.tup xs) (.tup ys) h Q := fun v w H Q' r dx dy p => by
  obtain ⟨a, us, rfl, e1, a1⟩ := tup_at dx
  obtain ⟨b, ws, rfl, e2, a2⟩ := tup_at dy
  refine ⟨a, b, us, ws, rfl, rfl, .of e1, .of e2, Nat.le_trans (by rw [a1.len, a2.len]; exact hl) (by decide), fun e => ?_, fun _ e => ?_, fun _ _ l nl => post_newT p r nl (a1.app a2) q⟩
  · subst e; cases a1; exact post_id p r dy q
  · subst e; cases a2; rw [List.append_nil] at q; exact post_id p r dx q
theorem flat_rep {α : Type} (a : α) : ∀ n, (List.replicate n [a]).flatten = List.replicate n a
  | 0 => rfl
  | n + 1 => by rw [List.replicate_succ, List.flatten_cons, flat_rep a n]; rfl
/-- [a] * n -/
theorem v_rep1 (hx : LsV h x [d]) (hi : i ≤ 1000000) (h0 : 0 ≤ i) (q : Fresh (List.replicate i.toNat d) h Q) : dR2 rRep x (.int i) h Q := fun v w H Q' r dx dy p => by
  cases dy
  obtain ⟨a, us, rfl, e1, a1⟩ := hx.at r dx
  cases a1 with
  | cons b1 b2 =>
    cases b2
    have big : (1000000 : Nat) < sizeLine := by decide
    refine ⟨a, i, _, rfl, rfl, e1, by omega, by omega, ?_, fun l nl => ?_⟩
    · rw [List.length_cons, List.length_nil]; omega
    · rw [flat_rep]
      exact q.post p r nl (DxA.rep b1 _)
end
end GX

set_option Elab.async false
set_option linter.all false
set_option maxRecDepth 100000
set_option maxHeartbeats 4000000
namespace GX
open PySem L2 PySem.Spec PyProof.Rows
/-! ### plain data: repr, == -/
mutual
def toP : D → PyData
  | .non => .none
  | .bl b => .bool b
  | .int i => .int i
  | .str z => .str z
  | .lst xs => .list (toPs xs)
  | .tup xs => .tuple (toPs xs)
  | .ty _ => .none
  | .dK _ => .none
  | .dT _ => .none
  | .ins _ _ => .none
  | .ref _ => .none
def toPs : List D → List PyData
  | [] => []
  | x :: xs => toP x :: toPs xs
end
mutual
def okP : D → Bool
  | .non => true
  | .bl _ => true
  | .int _ => true
  | .str _ => true
  | .lst xs => okPs xs
  | .tup xs => okPs xs
  | .ty _ => false
  | .dK _ => false
  | .dT _ => false
  | .ins _ _ => false
  | .ref _ => false
def okPs : List D → Bool
  | [] => true
  | x :: xs => okP x && okPs xs
end
theorem toPs_map (xs : List D) : toPs xs = xs.map toP := by
  induction xs with
  | nil => rfl
  | cons x xs ih => rw [toPs, ih]; rfl
theorem okPs_all (xs : List D) : okPs xs = xs.all okP := by
  induction xs with
  | nil => rfl
  | cons x xs ih => rw [okPs, ih]; rfl
section
variable {K : PySem.W.Frag} {h : Hs} {H : Hp}
mutual
theorem dp_of : ∀ {x : D} {v : V}, okP x = true → Dx (Fz h H) v x → Dp K H v (toP x)
  | _, _, _, .non => .non
  | _, _, _, .bl b => .bl b
  | _, _, _, .int i => .int i
  | _, _, _, .str z => .str z
  | .lst xs, _, o, .lst e a => .lst (.of (fz_some e).2) (dps_of (by simpa [okP] using o) a)
  | .tup xs, _, o, .tup e a => .tup (.of (fz_some e).2) (dps_of (by simpa [okP] using o) a)
  | _, _, o, .ty _ => by simp [okP] at o
  | _, _, o, .ref _ => by simp [okP] at o
  | _, _, o, .dK _ _ _ _ => by simp [okP] at o
  | _, _, o, .dT _ _ _ _ => by simp [okP] at o
  | _, _, o, .ins _ _ _ => by simp [okP] at o
theorem dps_of : ∀ {xs : List D} {vs : List V}, okPs xs = true → DxA (Fz h H) vs xs → DpAll K H vs (toPs xs)
  | [], _, _, .nil => .nil
  | x :: xs, _, o, .cons a b => by
    rw [okPs, Bool.and_eq_true] at o
    exact .cons (dp_of o.1 a) (dps_of o.2 b)
end
end
section
variable {ρ : Rho} {h : Hs} {Q : QD} {K : PySem.W.Frag} {x y : D} {xs ys ds : List D}
/-- what can be shown -/
def shOk (x : D) : Prop := okP x = true ∧ (toP x).showable = true ∧ (toP x).hasDict = false ∧ (toP x).depth ≤ 40 ∧ (toP x).shown.length + 64 ≤ 16777216
theorem v_repr (o : shOk x) (q : Q (.str (toP x).shown) h) : dRA (rRepr K) [x] h Q := fun vs H Q' r dx p => by
  cases dx with
  | cons dx dn =>
    cases dn
    exact ⟨_, toP x, rfl, dp_of o.1 dx, o.2.1, o.2.2.1, o.2.2.2.1, o.2.2.2.2, post_id p r (.str _) q⟩
theorem v_eqD (o1 : okP x = true) (o2 : okP y = true) (s1 : SeqAt.shaped (toP x) = true) (s2 : SeqAt.shaped (toP y) = true) (q : Q (.bl (PyData.eqv (toP x) (toP y))) h) : dR2 (rEqD K) x y h Q := fun v w H Q' r dx dy p =>
  ⟨_, _, dp_of o1 dx, dp_of o2 dy, s1, s2, post_id p r (.bl _) q⟩
theorem v_neD (o1 : okP x = true) (o2 : okP y = true) (s1 : SeqAt.shaped (toP x) = true) (s2 : SeqAt.shaped (toP y) = true) (q : Q (.bl (!PyData.eqv (toP x) (toP y))) h) : dR2 (rNeD K) x y h Q := fun v w H Q' r dx dy p =>
  ⟨_, _, dp_of o1 dx, dp_of o2 dy, s1, s2, post_id p r (.bl _) q⟩
end
/-! ### what is walked -/
/-- a list or a tuple -/
def iSeq (K : PySem.W.Frag) (tl : TE) : TI := fun σ H R => tl σ H fun x H1 => ∃ a, x = .ref a ∧ (((∃ xs, SqL K H1 a xs) ∧ R (Itl K a) H1) ∨ ((∃ xs, SqT K H1 a xs) ∧ R (Itt K a) H1))
section
variable {X : Cx} {tg : Expr}
theorem fresh_it {pins : List (Addr × Obj)} {σ : L2.St} {G : Hp} {z : Shared} (J : Inv X pins σ G z) : ∀ c ∈ [z.heap.objs.size], FpOk X pins G c := fun c hc => by
  rw [List.mem_singleton.mp hc]
  exact J.fpOk (Nat.le_refl _) (J.hok.fresh (Nat.le_refl _))
theorem pi_seq {l : Expr} {tl : TE} (hl : PE X l tl) : PI X tg l (iSeq X.K tl) where
  run := fun pins z σ G R I0 q0 => by
    refine thn (hl.run pins z σ G _ I0 q0) ?_
    rintro u z1 ⟨x, G1, J, rx, a, rfl, ⟨⟨xs, sq⟩, q⟩ | ⟨⟨xs, sq⟩, q⟩⟩
    · cases rx
      obtain ⟨its, _, pl, _⟩ := J.list sq
      refine wpAny_pyIter_list pl.isList ⟨_, _, _, _, G1, rfl, ?_, turn_list a _, ?_, fresh_it J, q⟩
      · exact J.kept (t' := z1.toks) fun _ _ m => Heap.get?_push_of_some _ m
      · exact ⟨_, Heap.get?_push_size _ rfl, rfl, rfl⟩
    · cases rx
      obtain ⟨its, _, pl, _⟩ := J.tuple sq
      refine wpAny_pyIter_tuple (show z1.heap.IsTuple a its.toArray from pl) ⟨_, _, _, _, G1, rfl, ?_, turn_tuple a _, ?_, fresh_it J, q⟩
      · exact J.kept (t' := z1.toks) fun _ _ m => Heap.get?_push_of_some _ m
      · exact ⟨_, Heap.get?_push_size _ rfl, rfl, rfl⟩
theorem pi_seqK {K : PySem.W.Frag} {l : Expr} {tl : TE} (hK : X.K = K) (hl : PE X l tl) : PI X tg l (iSeq K tl) := hK ▸ pi_seq hl
end
/-- what stands so that a list is walked -/
inductive LsI (h : Hs) : D → List D → (Hs → Prop) → Prop
  | f {ds : List D} : LsI h (.lst ds) ds (fun _ => True)
  | c {p : Addr} {ds : List D} : h p = some (.lst ds) → LsI h (.ref p) ds (fun h => h p = some (.lst ds))
section
variable {ρ : Rho} {h : Hs} {K : PySem.W.Frag} {R : List D → (Hs → Prop) → Hs → Prop} {x : D} {ds : List D} {Sd : Hs → Prop}
abbrev StI (Sd : Hs → Prop) (h1 : Hs) (H1 : Hp) : Hs → Hp → Prop := fun h' H' => Sd h' ∧ Same (Fz h1 H1) (Fz h' H')
/-- the list at p, wherever the walk stands -/
theorem LsI.at {H : Hp} {v : V} (i : LsI h x ds Sd) (r : RelH h H) (d : Dx (Fz h H) v x) : ∃ p, v = .ref p ∧ ∀ h' H', RelH h' H' → StI Sd h H h' H' → ∃ vs, H' p = some (.lst vs) ∧ DxA (Fz h' H') vs ds := by
  cases i with
  | f =>
    cases d with
    | @lst p vs _ e a => exact ⟨p, rfl, fun h' H' r' s' => ⟨vs, (fz_some (s'.2 _ _ e)).2, a.mono s'.2⟩⟩
  | c e =>
    cases d
    exact ⟨_, rfl, fun h' H' r' s' => r'.cell _ _ s'.1⟩
theorem LsI.now (i : LsI h x ds Sd) : Sd h := by
  cases i with
  | f => trivial
  | c e => exact e
theorem it_list {H : Hp} {p : Addr} (w : ∀ h' H', RelH h' H' → StI Sd h H h' H' → ∃ vs, H' p = some (.lst vs) ∧ DxA (Fz h' H') vs ds) : ItOk (Itl K p) ds (StI Sd h H) := by
  refine ⟨fun H' => ∃ vs, H' p = some (.lst vs) ∧ vs.length = ds.length, fun i H1 x H2 => H2 = H1 ∧ ∃ vs, H1 p = some (.lst vs) ∧ vs[i]? = some x, ⟨?_, ?_, ?_⟩, ?_, ?_⟩
  · rintro i H1 hi ⟨vs, e, l⟩
    exact ⟨vs, vs[i]'(by omega), .of e, List.getElem?_eq_getElem _⟩
  · rintro H1 ⟨vs, e, l⟩
    exact ⟨vs, .of e, by omega⟩
  · rintro i H1 x H2 hi ⟨vs, e, l⟩ y
    exact ⟨y.1, vs, e, y.2 vs (.of e)⟩
  · intro h' H' r s
    obtain ⟨vs, e, a⟩ := w h' H' r s
    exact ⟨vs, e, a.len⟩
  · rintro i h' H1 x H2 r s ⟨rfl, vs, e, hi⟩
    obtain ⟨vs', e', a⟩ := w h' _ r s
    rw [e] at e'
    cases e'
    obtain ⟨d, ed, dx⟩ := a.getV hi
    exact ⟨d, ed, dx, r, Same.refl _⟩
theorem it_tup {H : Hp} {p : Addr} (w : ∀ h' H', RelH h' H' → StI Sd h H h' H' → ∃ vs, H' p = some (.tup vs) ∧ DxA (Fz h' H') vs ds) : ItOk (Itt K p) ds (StI Sd h H) := by
  refine ⟨fun H' => ∃ vs, H' p = some (.tup vs) ∧ vs.length = ds.length, fun i H1 x H2 => H2 = H1 ∧ ∃ vs, H1 p = some (.tup vs) ∧ vs[i]? = some x, ⟨?_, ?_, ?_⟩, ?_, ?_⟩
  · rintro i H1 hi ⟨vs, e, l⟩
    exact ⟨vs, vs[i]'(by omega), .of e, List.getElem?_eq_getElem _⟩
  · rintro H1 ⟨vs, e, l⟩
    exact ⟨vs, .of e, by omega⟩
  · rintro i H1 x H2 hi ⟨vs, e, l⟩ y
    exact ⟨y.1, vs, e, y.2 vs (.of e)⟩
  · intro h' H' r s
    obtain ⟨vs, e, a⟩ := w h' H' r s
    exact ⟨vs, e, a.len⟩
  · rintro i h' H1 x H2 r s ⟨rfl, vs, e, hi⟩
    obtain ⟨vs', e', a⟩ := w h' _ r s
    rw [e] at e'
    cases e'
    obtain ⟨d, ed, dx⟩ := a.getV hi
    exact ⟨d, ed, dx, r, Same.refl _⟩
theorem i_list {tl : TE} (z : dE tl ρ h fun x h1 => ∃ ds Sd, LsI h1 x ds Sd ∧ R ds Sd h1) : dI (iList K tl) ρ h R := fun σ H R' rl p =>
  z σ H _ rl fun x h1 v H1 ⟨ds, Sd, i, q⟩ dx rh s => by
    obtain ⟨a, rfl, w⟩ := i.at rh dx
    obtain ⟨vs, e, _⟩ := w h1 H1 rh ⟨i.now, Same.refl _⟩
    exact ⟨a, rfl, ⟨vs, .of e⟩, p ds Sd _ h1 H1 q rh s (it_list w)⟩
theorem i_tup {tl : TE} (z : dE tl ρ h fun x h1 => ∃ ds, x = .tup ds ∧ R ds (fun _ => True) h1) : dI (iTup K tl) ρ h R := fun σ H R' rl p =>
  z σ H _ rl fun x h1 v H1 ⟨ds, ex, q⟩ dx rh s => by
    subst ex
    cases dx with
    | @tup a vs _ e dv =>
      exact ⟨a, rfl, ⟨vs, .of (fz_some e).2⟩, p ds _ _ h1 H1 q rh s (it_tup fun h' H' r' s' => ⟨vs, (fz_some (s'.2 _ _ e)).2, dv.mono s'.2⟩)⟩
inductive SqI (h : Hs) : D → List D → (Hs → Prop) → Prop
  | l {x : D} {ds : List D} {Sd : Hs → Prop} : LsI h x ds Sd → SqI h x ds Sd
  | t {ds : List D} : SqI h (.tup ds) ds (fun _ => True)
theorem SqI.f {ds : List D} : SqI h (.lst ds) ds (fun _ => True) := .l .f
theorem SqI.c {p : Addr} {ds : List D} (e : h p = some (.lst ds)) : SqI h (.ref p) ds (fun h => h p = some (.lst ds)) := .l (.c e)
theorem i_seq {tl : TE} (z : dE tl ρ h fun x h1 => ∃ ds Sd, SqI h1 x ds Sd ∧ R ds Sd h1) : dI (iSeq K tl) ρ h R := fun σ H R' rl p =>
  z σ H _ rl fun x h1 v H1 ⟨ds, Sd, i, q⟩ dx rh s => by
    cases i with
    | l i =>
      obtain ⟨a, rfl, w⟩ := i.at rh dx
      obtain ⟨vs, e, _⟩ := w h1 H1 rh ⟨i.now, Same.refl _⟩
      exact ⟨a, rfl, .inl ⟨⟨vs, .of e⟩, p ds Sd _ h1 H1 q rh s (it_list w)⟩⟩
    | t =>
      cases dx with
      | @tup a vs _ e dv =>
        exact ⟨a, rfl, .inr ⟨⟨vs, .of (fz_some e).2⟩, p ds _ _ h1 H1 q rh s (it_tup fun h' H' r' s' => ⟨vs, (fz_some (s'.2 _ _ e)).2, dv.mono s'.2⟩)⟩⟩
/-- ints one after another -/
def rngD (lo c : Int) (n : Nat) : List D := (List.range n).map fun i : Nat => .int (lo + (i : Int) * c)
theorem rngD_len (lo c : Int) (n : Nat) : (rngD lo c n).length = n := by unfold rngD; rw [List.length_map, List.length_range]
theorem rngD_get {lo c : Int} {n i : Nat} (hi : i < n) : (rngD lo c n)[i]? = some (.int (lo + (i : Int) * c)) := by
  unfold rngD
  rw [List.getElem?_map, List.getElem?_range hi]
  rfl
theorem rngD_inv {lo c : Int} {n i : Nat} {x : D} (e : (rngD lo c n)[i]? = some x) : i < n ∧ x = .int (lo + (i : Int) * c) := by
  have hi : i < n := by
    have := (List.getElem?_eq_some_iff.mp e).1
    rwa [rngD_len] at this
  rw [rngD_get hi] at e
  exact ⟨hi, (Option.some.inj e).symm⟩
theorem it_rng {lo : Int} {n : Nat} {St : Hs → Hp → Prop} : ItOk (Itr lo n) (rngD lo 1 n) St := by
  refine ⟨fun _ => True, fun i H x H' => i < n ∧ H' = H ∧ x = .int (lo + (i : Nat)), ⟨?_, ?_, ?_⟩, fun _ _ _ _ => trivial, ?_⟩
  · intro i H hi _
    rw [rngD_len] at hi
    exact hi
  · intro H _
    show n ≤ (rngD lo 1 n).length
    rw [rngD_len]
    exact Nat.le_refl _
  · intro i H x H' hi _ y
    rw [rngD_len] at hi
    exact ⟨hi, y⟩
  · rintro i h' H1 x H2 r s ⟨hi, rfl, rfl⟩
    refine ⟨_, rngD_get hi, ?_, r, Same.refl _⟩
    rw [Int.mul_one]
    exact .int _
theorem it_rngC {lo c : Int} {n : Nat} {St : Hs → Hp → Prop} : ItOk (Itc lo c n) (rngD lo c n) St := by
  refine ⟨fun _ => True, fun i H x H' => i < n ∧ H' = H ∧ x = .int (lo + (i : Nat) * c), ⟨?_, ?_, ?_⟩, fun _ _ _ _ => trivial, ?_⟩
  · intro i H hi _
    rw [rngD_len] at hi
    exact hi
  · intro H _
    show n ≤ (rngD lo c n).length
    rw [rngD_len]
    exact Nat.le_refl _
  · intro i H x H' hi _ y
    rw [rngD_len] at hi
    exact ⟨hi, y⟩
  · rintro i h' H1 x H2 r s ⟨hi, rfl, rfl⟩
    exact ⟨_, rngD_get hi, .int _, r, Same.refl _⟩
theorem i_rng1 {a : TA} (z : dA a ρ h fun xs h1 => ∃ j : Int, xs = [.int j] ∧ (-(2 ^ 62) ≤ j ∧ j < 2 ^ 62) ∧ R (rngD 0 1 j.toNat) (fun _ => True) h1) : dI (iRng1 a) ρ h R := fun σ H R' rl p =>
  z σ H _ rl fun xs h1 vs H1 ⟨j, ex, b, q⟩ dx rh s => by
    subst ex
    cases dx with
    | cons d1 d2 => cases d2; cases d1; exact ⟨j, rfl, b.1, b.2, p _ _ _ h1 H1 q rh s it_rng⟩
theorem i_rng2 {a : TA} (z : dA a ρ h fun xs h1 => ∃ i j : Int, xs = [.int i, .int j] ∧ (-(2 ^ 62) ≤ i ∧ i < 2 ^ 62 ∧ -(2 ^ 62) ≤ j ∧ j < 2 ^ 62) ∧ R (rngD i 1 (j - i).toNat) (fun _ => True) h1) : dI (iRng2 a) ρ h R := fun σ H R' rl p =>
  z σ H _ rl fun xs h1 vs H1 ⟨i, j, ex, b, q⟩ dx rh s => by
    subst ex
    cases dx with
    | cons d1 d2 =>
      cases d2 with
      | cons d2 d3 => cases d3; cases d1; cases d2; exact ⟨i, j, rfl, b, p _ _ _ h1 H1 q rh s it_rng⟩
theorem i_rng3 {a : TA} (z : dA a ρ h fun xs h1 => ∃ (i j c : Int) (n : Nat), xs = [.int i, .int j, .int c] ∧ RgC i j c n ∧ R (rngD i c n) (fun _ => True) h1) : dI (iRng3 a) ρ h R := fun σ H R' rl p =>
  z σ H _ rl fun xs h1 vs H1 ⟨i, j, c, n, ex, b, q⟩ dx rh s => by
    subst ex
    cases dx with
    | cons d1 d2 =>
      cases d2 with
      | cons d2 d3 =>
        cases d3 with
        | cons d3 d4 => cases d4; cases d1; cases d2; cases d3; exact ⟨i, j, c, n, rfl, b, p _ _ _ h1 H1 q rh s it_rngC⟩
/-- a text's signs -/
def signsD (z : Str) : List D := z.cps.toList.map fun c => .str ⟨#[c]⟩
theorem signsD_len (z : Str) : (signsD z).length = z.length := by unfold signsD; rw [List.length_map, Array.length_toList]; rfl
theorem it_str {z : Str} {St : Hs → Hp → Prop} : ItOk (Its z) (signsD z) St := by
  have hl : (signsD z).length = z.cps.size := signsD_len z
  refine ⟨fun _ => True, fun i H v H' => H' = H ∧ ∃ c, z.cps[i]? = some c ∧ v = .str ⟨#[c]⟩, by rw [hl]; exact walk_str, fun _ _ _ _ => trivial, ?_⟩
  rintro i h' H1 x H2 r s ⟨rfl, c, e, rfl⟩
  refine ⟨.str ⟨#[c]⟩, ?_, .str _, r, Same.refl _⟩
  unfold signsD
  rw [List.getElem?_map, Array.getElem?_toList, e]
  rfl
theorem i_str {te : TE} (z : dE te ρ h fun x h1 => ∃ s, x = .str s ∧ R (signsD s) (fun _ => True) h1) : dI (iStr te) ρ h R := fun σ H R' rl p =>
  z σ H _ rl fun x h1 v H1 ⟨s, ex, q⟩ dx rh s' => by
    subst ex
    cases dx
    exact ⟨s, rfl, p _ _ _ h1 H1 q rh s' it_str⟩
/-- pairs -/
def prsD (xs ys : List D) : List D := (List.zip xs ys).map fun p => .tup [p.1, p.2]
theorem prsD_len (xs ys : List D) : (prsD xs ys).length = min xs.length ys.length := by unfold prsD; rw [List.length_map, List.length_zip]
theorem prsD_get {xs ys : List D} {i : Nat} {x y : D} (e : xs[i]? = some x) (f : ys[i]? = some y) : (prsD xs ys)[i]? = some (.tup [x, y]) := by
  unfold prsD
  rw [List.getElem?_map, List.getElem?_zip_eq_some (z := (x, y)) |>.mpr ⟨e, f⟩]
  rfl
theorem prsD_inv {xs ys : List D} {i : Nat} {z : D} (e : (prsD xs ys)[i]? = some z) : ∃ x y, xs[i]? = some x ∧ ys[i]? = some y ∧ z = .tup [x, y] := by
  unfold prsD at e
  obtain ⟨p, e1, e2⟩ := get_map e
  obtain ⟨f, g⟩ := List.getElem?_zip_eq_some.mp e1
  exact ⟨p.1, p.2, f, g, e2.symm⟩
theorem pair_new {H1 : Hp} {h' : Hs} {T : Addr} {v w : V} {x y : D} (r : RelH h' H1) (n : H1 T = none) (dx : Dx (Fz h' H1) v x) (dy : Dx (Fz h' H1) w y) :
    Dx (Fz h' (upd H1 T (.tup [v, w]))) (.ref T) (.tup [x, y]) ∧ RelH h' (upd H1 T (.tup [v, w])) ∧ Sm h' H1 h' (upd H1 T (.tup [v, w])) := by
  obtain ⟨r1, s1⟩ := r.newF (o := .tup [v, w]) n
  exact ⟨.tup (by rw [fz_new r n, upd_same]) (.cons (dx.mono s1) (.cons (dy.mono s1) .nil)), r1, s1⟩
theorem it_zip {H : Hp} {p q : Addr} {xs ys : List D} (w1 : ∀ h' H', RelH h' H' → StI Sd h H h' H' → ∃ vs, H' p = some (.lst vs) ∧ DxA (Fz h' H') vs xs)
    (w2 : ∀ h' H', RelH h' H' → StI Sd h H h' H' → ∃ vs, H' q = some (.lst vs) ∧ DxA (Fz h' H') vs ys) : ItOk (Itz K p q) (prsD xs ys) (StI Sd h H) := by
  refine ⟨fun H' => ∃ vs us, H' p = some (.lst vs) ∧ H' q = some (.lst us) ∧ vs.length = xs.length ∧ us.length = ys.length, fun i H1 x H2 => ∃ T v u vs us, x = .ref T ∧ H1 T = none ∧ H2 = upd H1 T (.tup [v, u]) ∧ H1 p = some (.lst vs) ∧ H1 q = some (.lst us) ∧ vs[i]? = some v ∧ us[i]? = some u, ⟨?_, ?_, ?_⟩, ?_, ?_⟩
  · rintro i H1 hi ⟨vs, us, e1, e2, l1, l2⟩
    rw [prsD_len] at hi
    exact ⟨vs, us, vs[i]'(by omega), us[i]'(by omega), .of e1, .of e2, List.getElem?_eq_getElem _, List.getElem?_eq_getElem _⟩
  · rintro H1 ⟨vs, us, e1, e2, l1, l2⟩
    refine ⟨vs, us, .of e1, .of e2, ?_⟩
    rw [prsD_len]
    omega
  · rintro i H1 x H2 hi ⟨vs, us, e1, e2, l1, l2⟩ y
    obtain ⟨T, v, u, h1, h2, h3, h4, h5⟩ := y
    exact ⟨T, v, u, vs, us, h1, h2, h3, e1, e2, h4 vs (.of e1), h5 us (.of e2)⟩
  · intro h' H' r s
    obtain ⟨vs, e, a⟩ := w1 h' H' r s
    obtain ⟨us, e2, a2⟩ := w2 h' H' r s
    exact ⟨vs, us, e, e2, a.len, a2.len⟩
  · rintro i h' H1 x H2 r s ⟨T, v, u, vs, us, rfl, nT, rfl, e1, e2, hv, hu⟩
    obtain ⟨vs', e1', a1⟩ := w1 h' _ r s
    obtain ⟨us', e2', a2⟩ := w2 h' _ r s
    rw [e1] at e1'
    rw [e2] at e2'
    cases e1'
    cases e2'
    obtain ⟨d1, ed1, dx1⟩ := a1.getV hv
    obtain ⟨d2, ed2, dx2⟩ := a2.getV hu
    obtain ⟨dp, rp, sp⟩ := pair_new r nT dx1 dx2
    exact ⟨_, prsD_get ed1 ed2, dp, rp, sp⟩
theorem LsI.and {h' : Hs} {H H' : Hp} {y : D} {es : List D} {Se : Hs → Prop} (k : StI (fun h => Sd h ∧ Se h) h H h' H') : StI Sd h H h' H' ∧ StI Se h H h' H' := ⟨⟨k.1.1, k.2⟩, ⟨k.1.2, k.2⟩⟩
theorem i_zip {a : TA} (z : dA a ρ h fun xs h1 => ∃ x y ds es Sd Se, xs = [x, y] ∧ LsI h1 x ds Sd ∧ LsI h1 y es Se ∧ R (prsD ds es) (fun h => Sd h ∧ Se h) h1) : dI (iZip K a) ρ h R := fun σ H R' rl p =>
  z σ H _ rl fun xs h1 vs H1 ⟨x, y, ds, es, Sd, Se, ex, i1, i2, q⟩ dx rh s => by
    subst ex
    cases dx with
    | cons d1 d2 =>
      cases d2 with
      | cons d2 d3 =>
        cases d3
        obtain ⟨b, rfl, w1⟩ := i1.at rh d1
        obtain ⟨c, rfl, w2⟩ := i2.at rh d2
        obtain ⟨vs1, e1, _⟩ := w1 h1 H1 rh ⟨i1.now, Same.refl _⟩
        obtain ⟨vs2, e2, _⟩ := w2 h1 H1 rh ⟨i2.now, Same.refl _⟩
        exact ⟨b, c, vs1, vs2, rfl, .of e1, .of e2, p _ _ _ h1 H1 q rh s (it_zip (fun h' H' r' k => w1 h' H' r' ⟨k.1.1, k.2⟩) (fun h' H' r' k => w2 h' H' r' ⟨k.1.2, k.2⟩))⟩
/-- numbered -/
def numD (xs : List D) : List D := prsD ((List.range xs.length).map fun i : Nat => .int i) xs
theorem numD_len (xs : List D) : (numD xs).length = xs.length := by unfold numD; rw [prsD_len, List.length_map, List.length_range, Nat.min_self]
theorem numD_get {xs : List D} {i : Nat} {x : D} (e : xs[i]? = some x) : (numD xs)[i]? = some (.tup [.int (i : Nat), x]) := by
  refine prsD_get ?_ e
  have hi := (List.getElem?_eq_some_iff.mp e).1
  rw [List.getElem?_map, List.getElem?_range hi]
  rfl
theorem numD_inv {xs : List D} {i : Nat} {z : D} (e : (numD xs)[i]? = some z) : ∃ x, xs[i]? = some x ∧ z = .tup [.int (i : Nat), x] := by
  obtain ⟨x, y, e1, e2, rfl⟩ := prsD_inv e
  have := numD_get e2
  have e' : (numD xs)[i]? = some (.tup [x, y]) := e
  rw [this] at e'
  exact ⟨y, e2, (Option.some.inj e').symm⟩
theorem it_enum {H : Hp} {p : Addr} (w : ∀ h' H', RelH h' H' → StI Sd h H h' H' → ∃ vs, H' p = some (.lst vs) ∧ DxA (Fz h' H') vs ds) : ItOk (Ite K p) (numD ds) (StI Sd h H) := by
  refine ⟨fun H' => ∃ vs, H' p = some (.lst vs) ∧ vs.length = ds.length, fun i H1 x H2 => ∃ T v vs, x = .ref T ∧ H1 T = none ∧ H2 = upd H1 T (.tup [.int (i : Nat), v]) ∧ H1 p = some (.lst vs) ∧ vs[i]? = some v, ⟨?_, ?_, ?_⟩, ?_, ?_⟩
  · rintro i H1 hi ⟨vs, e, l⟩
    rw [numD_len] at hi
    exact ⟨vs, vs[i]'(by omega), .of e, List.getElem?_eq_getElem _⟩
  · rintro H1 ⟨vs, e, l⟩
    exact ⟨vs, .of e, by rw [numD_len]; omega⟩
  · rintro i H1 x H2 hi ⟨vs, e, l⟩ ⟨T, v, h1, h2, h3, h4⟩
    exact ⟨T, v, vs, h1, h2, h3, e, h4 vs (.of e)⟩
  · intro h' H' r s
    obtain ⟨vs, e, a⟩ := w h' H' r s
    exact ⟨vs, e, a.len⟩
  · rintro i h' H1 x H2 r s ⟨T, v, vs, rfl, nT, rfl, e, hi⟩
    obtain ⟨vs', e', a⟩ := w h' _ r s
    rw [e] at e'
    cases e'
    obtain ⟨d, ed, dx⟩ := a.getV hi
    obtain ⟨dp, rp, sp⟩ := pair_new r nT (.int (i : Nat)) dx
    exact ⟨_, numD_get ed, dp, rp, sp⟩
theorem i_enum {a : TA} (z : dA a ρ h fun xs h1 => ∃ x ds Sd, xs = [x] ∧ LsI h1 x ds Sd ∧ R (numD ds) Sd h1) : dI (iEnum K a) ρ h R := fun σ H R' rl p =>
  z σ H _ rl fun xs h1 vs H1 ⟨x, ds, Sd, ex, i, q⟩ dx rh s => by
    subst ex
    cases dx with
    | cons d1 d2 =>
      cases d2
      obtain ⟨b, rfl, w⟩ := i.at rh d1
      obtain ⟨vs1, e1, _⟩ := w h1 H1 rh ⟨i.now, Same.refl _⟩
      exact ⟨b, vs1, rfl, .of e1, p _ _ _ h1 H1 q rh s (it_enum w)⟩
/-! ### dicts walked, under a lock -/
/-- newly locked, or locked already -/
def tLockU (t : TS) : TS := fun E σ H => tLock t E σ H ∨ t E σ H
def tLockEU (t : TE) : TE := fun σ H Q => tLockE t σ H Q ∨ t σ H Q
theorem ps_lockU {X : Cx} {st : Stmt} {t : TS} (k : PS X st t) : PS X st (tLockU t) := by
  refine ⟨fun pins s σ H D I hw => ?_⟩
  rcases hw with hw | hw
  · exact (ps_lock k).run pins s σ H D I hw
  · exact k.run pins s σ H D I hw
theorem pe_lockU {X : Cx} {e : Expr} {t : TE} (k : PE X e t) : PE X e (tLockEU t) := by
  refine ⟨fun pins s σ H D I hw => ?_⟩
  rcases hw with hw | hw
  · exact (pe_lock k).run pins s σ H D I hw
  · exact k.run pins s σ H D I hw
theorem uHH {H : Hp} {d : Addr} {o : Obj} {kvs : List (Key × V)} (e : H d = some (.dK kvs)) : SameU H (upd H d (.frz o (.dK kvs))) := fun b u q => by
  by_cases hb : b = d
  · subst hb
    rw [e] at q
    cases q
    exact ⟨_, upd_same, rfl, fun k _ => absurd rfl (k kvs)⟩
  · exact ⟨u, by rw [upd_ne hb]; exact q, rfl, fun _ _ => rfl⟩
theorem uHH2 {H : Hp} {d : Addr} {o : Obj} {kvs : List (Key × V)} (e : H d = some (.frz o (.dK kvs))) : SameU H (upd H d (.dK kvs)) := fun b u q => by
  by_cases hb : b = d
  · subst hb
    rw [e] at q
    cases q
    exact ⟨_, upd_same, rfl, fun k _ => absurd rfl (k kvs)⟩
  · exact ⟨u, by rw [upd_ne hb]; exact q, rfl, fun _ _ => rfl⟩
theorem fz_u {h : Hs} {H H' : Hp} (s : SameU H H') : SameU (Fz h H) (Fz h H') := fun b u q => by
  obtain ⟨n, e⟩ := fz_some q
  rw [fz_out n]
  exact s b u e
theorem relH_u {h : Hs} {H : Hp} {d : Addr} {o : HO} (r : RelH h H) (n : h d = none) (s : SameU H (upd H d o)) : RelH h (upd H d o) := by
  refine ⟨fun a u e => ?_, r.src⟩
  have ne : a ≠ d := h_ne e n
  refine (r.cell a u e).mono (fz_u s) (upd_ne ne) fun la q => ?_
  subst q
  exact upd_ne (h_ne (r.src a la e) n)
theorem rel_u {ρ : Rho} {h : Hs} {σ : L2.St} {H : Hp} {d : Addr} {o : HO} (r : Rel ρ h σ H) (n : h d = none) (s : SameU H (upd H d o)) : Rel ρ h σ (upd H d o) :=
  ⟨relH_u r.rh n s, r.len, fun i x e => let ⟨v, e1, dx⟩ := r.sl i x e; ⟨v, e1, dx.monoU (fz_u s)⟩⟩
/-- behind a lock: the dict at d stands as it stood -/
theorem unlock {h h' : Hs} {H H' : Hp} {d : Addr} {o : Obj} {kvs : List (Key × V)} (e : H d = some (.dK kvs)) (n : h d = none) (s : Same (Fz h (upd H d (.frz o (.dK kvs)))) (Fz h' H')) :
    H' d = some (.frz o (.dK kvs)) ∧ h' d = none ∧ SameU H' (upd H' d (.dK kvs)) ∧ Same (Fz h H) (Fz h' (upd H' d (.dK kvs))) := by
  have e1 : Fz h (upd H d (.frz o (.dK kvs))) d = some (.frz o (.dK kvs)) := by rw [fz_out n, upd_same]
  obtain ⟨n2, e2⟩ := fz_some (s d _ e1)
  refine ⟨e2, n2, uHH2 e2, fun b u q => ?_⟩
  obtain ⟨nb, eb⟩ := fz_some q
  by_cases hb : b = d
  · subst hb
    rw [e] at eb
    cases eb
    rw [fz_out n2, upd_same]
  · have := s b u (by rw [fz_out nb, upd_ne hb]; exact eb)
    obtain ⟨n3, e3⟩ := fz_some this
    rw [fz_out n3, upd_ne hb]
    exact e3
def Det (t : TE) (ρ : Rho) (h : Hs) (x : D) : Prop := ∀ σ H, Rel ρ h σ H → ∃ v, Dx (Fz h H) v x ∧ ∀ H', SameU H H' → ∀ Q : VK, Q v H' → t σ H' Q
theorem det_var {n : Nat} (e : ρ[n]? = some (some x)) : Det (tVar n) ρ h x := fun σ H r =>
  let ⟨v, e1, d⟩ := r.sl n x e; ⟨v, d, fun H' _ Q q => ⟨v, e1, q⟩⟩
theorem det_fld {ta : TE} {f : Str} {y : D} {C : Addr} {fs : List (Str × D)} (hd : Det ta ρ h y) (i : InsV h y C fs) (c : Cls K C) (n : NoAttr K C f) (l : fs.lookup f = some x) : Det (tFld K ta f) ρ h x := fun σ H r => by
  obtain ⟨v, dv, k⟩ := hd σ H r
  obtain ⟨p, dx, ws, rfl, e, a1, a2⟩ := i.at r.rh dv
  obtain ⟨w, l2, dw⟩ := lookup_dx a1 a2 l
  refine ⟨w, dw, fun H' s Q q => k H' s _ ?_⟩
  exact ⟨p, C, dx, ws, w, rfl, s.keep e (fun _ q => nomatch q) (fun _ q => nomatch q), c, n, l2, q⟩
/-- a dict's iterator, under the lock -/
def WalksD (w : TI) (td : TE) (sel : List (Key × D) → List D) : Prop := ∀ σ H1 d od kvs kds h1 (Sd : Hs → Prop) (R' : It → Hp → Prop), (∀ Q : VK, Q (.ref d) H1 → td σ H1 Q) → H1 d = some (.frz od (.dK kvs)) →
  (∀ h' H', RelH h' H' → StI Sd h1 H1 h' H' → H' d = some (.frz od (.dK kvs)) ∧ KDx (Fz h' H') kvs kds) →
  (∀ J, ItOk J (sel kds) (StI Sd h1 H1) → R' J H1) → w σ H1 R'
def keysD (kds : List (Key × D)) : List D := kds.map fun kv => kD kv.1
def valsD (kds : List (Key × D)) : List D := kds.map fun kv => kv.2
def itemsD (kds : List (Key × D)) : List D := kds.map fun kv => .tup [kD kv.1, kv.2]
theorem it_keys {h1 : Hs} {H1 : Hp} {d : Addr} {od : Obj} {kvs : List (Key × V)} {kds : List (Key × D)} (w : ∀ h' H', RelH h' H' → StI Sd h1 H1 h' H' → H' d = some (.frz od (.dK kvs)) ∧ KDx (Fz h' H') kvs kds) (l : kvs.length = kds.length) : ItOk (Itk d od kvs) (keysD kds) (StI Sd h1 H1) := by
  have hl : (keysD kds).length = kvs.length := by unfold keysD; rw [List.length_map, l]
  refine ⟨fun H' => H' d = some (.frz od (.dK kvs)), fun i H x H' => H' = H ∧ ∃ k v, kvs[i]? = some (k, v) ∧ x = kV k, by rw [hl]; exact walk_keys, fun h' H' r s => (w h' H' r s).1, ?_⟩
  rintro i h' H2 x H3 r s ⟨rfl, k, v, e, rfl⟩
  obtain ⟨dd, ed, dx⟩ := (w h' _ r s).2.get e
  exact ⟨kD k, by unfold keysD; rw [List.getElem?_map, ed]; rfl, dx_key k, r, Same.refl _⟩
theorem it_vals {h1 : Hs} {H1 : Hp} {d : Addr} {od : Obj} {kvs : List (Key × V)} {kds : List (Key × D)} (w : ∀ h' H', RelH h' H' → StI Sd h1 H1 h' H' → H' d = some (.frz od (.dK kvs)) ∧ KDx (Fz h' H') kvs kds) (l : kvs.length = kds.length) : ItOk (Itd d od kvs) (valsD kds) (StI Sd h1 H1) := by
  have hl : (valsD kds).length = kvs.length := by unfold valsD; rw [List.length_map, l]
  refine ⟨fun H' => H' d = some (.frz od (.dK kvs)), fun i H x H' => H' = H ∧ ∃ k, kvs[i]? = some (k, x), by rw [hl]; exact walk_values, fun h' H' r s => (w h' H' r s).1, ?_⟩
  rintro i h' H2 x H3 r s ⟨rfl, k, e⟩
  obtain ⟨dd, ed, dx⟩ := (w h' _ r s).2.get e
  exact ⟨dd, by unfold valsD; rw [List.getElem?_map, ed]; rfl, dx, r, Same.refl _⟩
theorem it_items {h1 : Hs} {H1 : Hp} {d : Addr} {od : Obj} {kvs : List (Key × V)} {kds : List (Key × D)} (w : ∀ h' H', RelH h' H' → StI Sd h1 H1 h' H' → H' d = some (.frz od (.dK kvs)) ∧ KDx (Fz h' H') kvs kds) (l : kvs.length = kds.length) : ItOk (Iti d od kvs) (itemsD kds) (StI Sd h1 H1) := by
  have hl : (itemsD kds).length = kvs.length := by unfold itemsD; rw [List.length_map, l]
  refine ⟨fun H' => H' d = some (.frz od (.dK kvs)), _, by rw [hl]; exact walk_items, fun h' H' r s => (w h' H' r s).1, ?_⟩
  rintro i h' H2 x H3 r s ⟨T, u, v, rfl, nT, rfl, e1, e2⟩
  have e1 : (kvs[i]?.map fun kv => kV kv.1) = some u := e1
  have e2 : kvs[i]?.map Prod.snd = some v := e2
  cases q : kvs[i]? with
  | none => rw [q] at e1; cases e1
  | some kv =>
    rw [q] at e1 e2
    cases e1
    cases e2
    obtain ⟨dd, ed, dx⟩ := (w h' _ r s).2.get (k := kv.1) (v := kv.2) q
    obtain ⟨dp, rp, sp⟩ := pair_new r nT (dx_key kv.1) dx
    exact ⟨.tup [kD kv.1, dd], by unfold itemsD; rw [List.getElem?_map, ed]; rfl, dp, rp, sp⟩
theorem w_keys {td : TE} : WalksD (iKeys td) td keysD := fun σ H1 d od kvs kds h1 Sd R' ht e w k => by
  refine ht _ ⟨d, od, rfl, .inl ⟨kvs, e, ?_⟩⟩
  by_cases q : kvs.length = kds.length
  · exact k _ (it_keys w q)
  · refine k _ ⟨fun H' => False, fun _ _ _ _ => False, ⟨fun _ _ _ z => z.elim, fun _ z => z.elim, fun _ _ _ _ _ z => z.elim⟩, fun h' H' r s => q (w h' H' r s).2.len, fun _ _ _ _ _ _ _ z => z.elim⟩
theorem w_keysM {td : TE} : WalksD (iKeysM td) td keysD := fun σ H1 d od kvs kds h1 Sd R' ht e w k => by
  refine ht _ ⟨d, od, kvs, rfl, e, ?_⟩
  by_cases q : kvs.length = kds.length
  · exact k _ (it_keys w q)
  · refine k _ ⟨fun H' => False, fun _ _ _ _ => False, ⟨fun _ _ _ z => z.elim, fun _ z => z.elim, fun _ _ _ _ _ z => z.elim⟩, fun h' H' r s => q (w h' H' r s).2.len, fun _ _ _ _ _ _ _ z => z.elim⟩
theorem w_vals {td : TE} : WalksD (iVals td) td valsD := fun σ H1 d od kvs kds h1 Sd R' ht e w k => by
  refine ht _ ⟨d, od, kvs, rfl, e, ?_⟩
  by_cases q : kvs.length = kds.length
  · exact k _ (it_vals w q)
  · refine k _ ⟨fun H' => False, fun _ _ _ _ => False, ⟨fun _ _ _ z => z.elim, fun _ z => z.elim, fun _ _ _ _ _ z => z.elim⟩, fun h' H' r s => q (w h' H' r s).2.len, fun _ _ _ _ _ _ _ z => z.elim⟩
theorem w_items {td : TE} : WalksD (iItems td) td itemsD := fun σ H1 d od kvs kds h1 Sd R' ht e w k => by
  refine ht _ ⟨d, od, kvs, rfl, e, ?_⟩
  by_cases q : kvs.length = kds.length
  · exact k _ (it_items w q)
  · refine k _ ⟨fun H' => False, fun _ _ _ _ => False, ⟨fun _ _ _ z => z.elim, fun _ z => z.elim, fun _ _ _ _ _ z => z.elim⟩, fun h' H' r s => q (w h' H' r s).2.len, fun _ _ _ _ _ _ _ z => z.elim⟩
/-- all that is known of a walk over data, from where it is locked -/
theorem walk_in {h : Hs} {H1 : Hp} {d : Addr} {od : Obj} {kvs : List (Key × V)} {kds : List (Key × D)} (n : h d = none) (e : H1 d = some (.frz od (.dK kvs))) (z : KDx (Fz h H1) kvs kds) :
    ∀ h' H', RelH h' H' → StI (fun _ => True) h H1 h' H' → H' d = some (.frz od (.dK kvs)) ∧ KDx (Fz h' H') kvs kds := fun h' H' r s =>
  ⟨(fz_some (s.2 d _ (by rw [fz_out n]; exact e))).2, z.ks, z.vs.mono s.2⟩
/-- where d is data: the turns under the lock, or under one that is there -/
theorem lock_cases {A : Prop} {kds : List (Key × D)} {σ : L2.St} {H : Hp} {v : V} (rl : Rel ρ h σ H) (dv : Dx (Fz h H) v (.dK kds))
    (new : ∀ (d : Addr) (kvs : List (Key × V)), v = .ref d → h d = none → H d = some (.dK kvs) → KDx (Fz h H) kvs kds → A)
    (old : ∀ (d : Addr) (od : Obj) (kvs : List (Key × V)), v = .ref d → h d = none → H d = some (.frz od (.dK kvs)) → KDx (Fz h H) kvs kds → A) : A := by
  cases dv with
  | @dK d u kvs _ e eu a b =>
    obtain ⟨n, e⟩ := fz_some e
    rcases un_dK eu with rfl | ⟨o, rfl⟩
    · exact new d kvs rfl n e ⟨a, b⟩
    · exact old d o kvs rfl n e ⟨a, b⟩
/-- for k in d, d data -/
theorem d_lockFor {w : TI} {td : TE} {sel : List (Key × D) → List D} {g : TG} {t : TS} {E : DEnds} {kds : List (Key × D)} (hw : WalksD w td sel) (hd : Det td ρ h (.dK kds)) (z : dFor g t E ρ (sel kds) (fun _ => True) h) : dS (tLockU (tFor w g t)) E ρ h := fun σ H E' rl p => by
  obtain ⟨v, dv, k⟩ := hd σ H rl
  refine lock_cases rl dv (fun d kvs ev n e kz => ?_) (fun d od kvs ev n e kz => ?_)
  · subst ev
    refine .inl ⟨d, _, e, True.intro, fun od => ?_⟩
    have s1 := uHH (o := od) e
    have r1 := rel_u rl n s1
    have e1 : upd H d (.frz od (.dK kvs)) d = some (.frz od (.dK kvs)) := upd_same
    refine r_for (hw σ _ d od kvs kds h (fun _ => True) _ (fun Q q => k _ s1 Q q) e1 (walk_in n e1 ⟨kz.ks, kz.vs.monoU (fz_u s1)⟩) fun J it => forgo_of r1 ?_ it z)
    refine ⟨fun ρ' h' σ' H' q r s => ?_, fun x h' v' H' q dx r s => ?_, fun ρ' h' σ' H' q r s => ?_, fun ρ' h' σ' H' q r s => ?_⟩
    · obtain ⟨a1, a2, a3, a4⟩ := unlock e n s
      exact ⟨a1, p.nx ρ' h' σ' _ q (rel_u r a2 a3) a4⟩
    · obtain ⟨a1, a2, a3, a4⟩ := unlock e n s
      exact ⟨a1, p.rt x h' v' _ q (dx.monoU (fz_u a3)) (relH_u r a2 a3) a4⟩
    · obtain ⟨a1, a2, a3, a4⟩ := unlock e n s
      exact ⟨a1, p.bk ρ' h' σ' _ q (rel_u r a2 a3) a4⟩
    · obtain ⟨a1, a2, a3, a4⟩ := unlock e n s
      exact ⟨a1, p.ct ρ' h' σ' _ q (rel_u r a2 a3) a4⟩
  · subst ev
    refine .inr (r_for (hw σ H d od kvs kds h (fun _ => True) _ (fun Q q => k H (sameU (Same.refl H)) Q q) e (walk_in n e kz) fun J it => forgo_of rl p it z))
/-- [.. for k in d], d data -/
theorem d_lockLc {w : TI} {td : TE} {sel : List (Key × D) → List D} {g : TG} {tt : TT} {te : TE} {vs : List Nat} {Q : QD} {kds : List (Key × D)} (hw : WalksD w td sel) (hd : Det td ρ h (.dK kds)) (z : dLcGo g tt te vs ρ Q (sel kds) (fun _ => True) h) : dE (tLockEU (tLc w g tt te vs)) ρ h Q := fun σ H Q' rl p => by
  obtain ⟨v, dv, k⟩ := hd σ H rl
  refine lock_cases rl dv (fun d kvs ev n e kz => ?_) (fun d od kvs ev n e kz => ?_)
  · subst ev
    refine .inl ⟨d, _, e, True.intro, fun od => ?_⟩
    have s1 := uHH (o := od) e
    have r1 := rel_u rl n s1
    have e1 : upd H d (.frz od (.dK kvs)) d = some (.frz od (.dK kvs)) := upd_same
    refine r_lc (hw σ _ d od kvs kds h (fun _ => True) _ (fun Q q => k _ s1 Q q) e1 (walk_in n e1 ⟨kz.ks, kz.vs.monoU (fz_u s1)⟩) fun J it => lcgo_of r1 ?_ it z)
    refine fun x h' v' H' q dx r s => ?_
    obtain ⟨a1, a2, a3, a4⟩ := unlock e n s
    exact ⟨a1, p x h' v' _ q (dx.monoU (fz_u a3)) (relH_u r a2 a3) a4⟩
  · subst ev
    refine .inr (r_lc (hw σ H d od kvs kds h (fun _ => True) _ (fun Q q => k H (sameU (Same.refl H)) Q q) e (walk_in n e kz) fun J it => lcgo_of rl p it z))
/-- a cell under a lock, and behind it -/
theorem RelH.lockC {H : Hp} {d : Addr} {od : Obj} {kds : List (Key × D)} {kvs : List (Key × V)} (r : RelH h H) (e : h d = some (.dK kds)) (e2 : H d = some (.dK kvs)) (kz : KDx (Fz h H) kvs kds) :
    RelH (seth h d (.dKl od kvs kds)) (upd H d (.frz od (.dK kvs))) ∧ Sm h H (seth h d (.dKl od kvs kds)) (upd H d (.frz od (.dK kvs))) :=
  r.write e (fun _ q => nomatch q) (fun q => nomatch q) ⟨upd_same, kz.ks, kz.vs⟩ (fun _ q => nomatch q)
theorem RelH.unlockC {H : Hp} {d : Addr} {od : Obj} {kds : List (Key × D)} {kvs : List (Key × V)} (r : RelH h H) (e : h d = some (.dKl od kvs kds)) :
    H d = some (.frz od (.dK kvs)) ∧ RelH (seth h d (.dK kds)) (upd H d (.dK kvs)) ∧ Sm h H (seth h d (.dK kds)) (upd H d (.dK kvs)) := by
  obtain ⟨e3, a, b⟩ := r.cell d _ e
  exact ⟨e3, r.write e (fun _ q => nomatch q) (fun q => nomatch q) ⟨kvs, upd_same, a, b⟩ (fun _ q => nomatch q)⟩
/-- what is wanted behind the lock of a cell -/
def lockE (d : Addr) (od : Obj) (kvs : List (Key × V)) (kds : List (Key × D)) (E : DEnds) : DEnds :=
  ⟨fun ρ' h' => h' d = some (.dKl od kvs kds) ∧ E.nx ρ' (seth h' d (.dK kds)), fun x h' => h' d = some (.dKl od kvs kds) ∧ E.rt x (seth h' d (.dK kds)), fun ρ' h' => h' d = some (.dKl od kvs kds) ∧ E.bk ρ' (seth h' d (.dK kds)), fun ρ' h' => h' d = some (.dKl od kvs kds) ∧ E.ct ρ' (seth h' d (.dK kds))⟩
/-- for k in d, d a cell -/
theorem d_lockForC {w : TI} {td : TE} {sel : List (Key × D) → List D} {g : TG} {t : TS} {E : DEnds} {d : Addr} {kds : List (Key × D)} (hw : WalksD w td sel) (hd : Det td ρ h (.ref d)) (e : h d = some (.dK kds))
    (z : ∀ od kvs, dFor g t (lockE d od kvs kds E) ρ (sel kds) (fun h' => h' d = some (.dKl od kvs kds)) (seth h d (.dKl od kvs kds))) : dS (tLockU (tFor w g t)) E ρ h := fun σ H E' rl p => by
  obtain ⟨v, dv, k⟩ := hd σ H rl
  cases dv
  obtain ⟨kvs, e2, a, b⟩ := rl.rh.cell d _ e
  have kz : KDx (Fz h H) kvs kds := ⟨a, b⟩
  refine .inl ⟨d, _, e2, True.intro, fun od => ?_⟩
  have s1 := uHH (o := od) e2
  obtain ⟨rh1, sm1⟩ := rl.rh.lockC (od := od) e e2 kz
  have r1 := rl.step rh1 sm1
  have e1 : upd H d (.frz od (.dK kvs)) d = some (.frz od (.dK kvs)) := upd_same
  refine r_for (hw σ _ d od kvs kds (seth h d (.dKl od kvs kds)) (fun h' => h' d = some (.dKl od kvs kds)) _ (fun Q q => k _ s1 Q q) e1 ?_ fun J it => forgo_of r1 ?_ it (z od kvs))
  · intro h' H' r s
    obtain ⟨e3, a3, b3⟩ := r.cell d _ s.1
    exact ⟨e3, a3, b3⟩
  · refine ⟨fun ρ' h' σ' H' q r s => ?_, fun x h' v' H' q dx r s => ?_, fun ρ' h' σ' H' q r s => ?_, fun ρ' h' σ' H' q r s => ?_⟩
    · obtain ⟨a1, a2, a3⟩ := r.rh.unlockC q.1
      exact ⟨a1, p.nx ρ' _ σ' _ q.2 (r.step a2 a3) (sm1.trans (s.trans a3))⟩
    · obtain ⟨a1, a2, a3⟩ := r.unlockC q.1
      exact ⟨a1, p.rt x _ v' _ q.2 (dx.mono a3) a2 (sm1.trans (s.trans a3))⟩
    · obtain ⟨a1, a2, a3⟩ := r.rh.unlockC q.1
      exact ⟨a1, p.bk ρ' _ σ' _ q.2 (r.step a2 a3) (sm1.trans (s.trans a3))⟩
    · obtain ⟨a1, a2, a3⟩ := r.rh.unlockC q.1
      exact ⟨a1, p.ct ρ' _ σ' _ q.2 (r.step a2 a3) (sm1.trans (s.trans a3))⟩
/-- [.. for k in d], d a cell -/
theorem d_lockLcC {w : TI} {td : TE} {sel : List (Key × D) → List D} {g : TG} {tt : TT} {te : TE} {vs : List Nat} {Q : QD} {d : Addr} {kds : List (Key × D)} (hw : WalksD w td sel) (hd : Det td ρ h (.ref d)) (e : h d = some (.dK kds))
    (z : ∀ od kvs, dLcGo g tt te vs ρ (fun x h' => h' d = some (.dKl od kvs kds) ∧ Q x (seth h' d (.dK kds))) (sel kds) (fun h' => h' d = some (.dKl od kvs kds)) (seth h d (.dKl od kvs kds))) : dE (tLockEU (tLc w g tt te vs)) ρ h Q := fun σ H E' rl p => by
  obtain ⟨v, dv, k⟩ := hd σ H rl
  cases dv
  obtain ⟨kvs, e2, a, b⟩ := rl.rh.cell d _ e
  have kz : KDx (Fz h H) kvs kds := ⟨a, b⟩
  refine .inl ⟨d, _, e2, True.intro, fun od => ?_⟩
  have s1 := uHH (o := od) e2
  obtain ⟨rh1, sm1⟩ := rl.rh.lockC (od := od) e e2 kz
  have r1 := rl.step rh1 sm1
  have e1 : upd H d (.frz od (.dK kvs)) d = some (.frz od (.dK kvs)) := upd_same
  refine r_lc (hw σ _ d od kvs kds (seth h d (.dKl od kvs kds)) (fun h' => h' d = some (.dKl od kvs kds)) _ (fun Q q => k _ s1 Q q) e1 ?_ fun J it => lcgo_of r1 ?_ it (z od kvs))
  · intro h' H' r s
    obtain ⟨e3, a3, b3⟩ := r.cell d _ s.1
    exact ⟨e3, a3, b3⟩
  · intro x h' v' H' q dx r s
    obtain ⟨a1, a2, a3⟩ := r.unlockC q.1
    exact ⟨a1, p x _ v' _ q.2 (dx.mono a3) a2 (sm1.trans (s.trans a3))⟩
end
end GX

set_option Elab.async false
set_option linter.all false
set_option maxRecDepth 100000
set_option maxHeartbeats 4000000
/-! ### rules that leave the kinds of their operands open -/
namespace GX
open PySem L2 PySem.Spec PyProof.Rows
section
variable {X : Cx} {K : PySem.W.Frag}
theorem OpR.or {f : Value → Value → Sem Value} {r1 r2 : R2} (a : OpR X f r1) (b : OpR X f r2) : OpR X f (fun x y H Q => r1 x y H Q ∨ r2 x y H Q) := by
  intro pins s σ H x y v u Q I rx ry h
  rcases h with h | h
  · exact a pins s σ H x y v u Q I rx ry h
  · exact b pins s σ H x y v u Q I rx ry h
theorem CallR.or {f : Value} {r1 r2 : List V → Hp → VK → Prop} (a : CallR X f r1) (b : CallR X f r2) : CallR X f (fun xs H Q => r1 xs H Q ∨ r2 xs H Q) := by
  intro pins s σ H xs us Q I r h
  rcases h with h | h
  · exact a pins s σ H xs us Q I r h
  · exact b pins s σ H xs us Q I r h
theorem SlR.or {r1 r2 : V → Option Int → Option Int → Hp → VK → Prop} (a : SlR X r1) (b : SlR X r2) : SlR X (fun x l u H Q => r1 x l u H Q ∨ r2 x l u H Q) := by
  intro pins s σ H x v vl vu lo hi sl Q I rx hs pl pu h
  rcases h with h | h
  · exact a pins s σ H x v vl vu lo hi sl Q I rx hs pl pu h
  · exact b pins s σ H x v vl vu lo hi sl Q I rx hs pl pu h
def rAddI : R2 := rI0 fun i j => .int (i + j)
def rAddS : R2 := fun x y H Q => ∃ i j, x = .str i ∧ y = .str j ∧ i.length + j.length ≤ sizeLine ∧ Q (.str (i ++ j)) H
def rAddG (K : PySem.W.Frag) : R2 := fun x y H Q => rAddI x y H Q ∨ rAddS x y H Q ∨ rCat x y H Q ∨ rCatA K x y H Q
theorem op_addG (hK : X.K = K) : OpR X (binaryOp .Add) (rAddG K) := hK ▸ OpR.or op_add (OpR.or op_add_str (OpR.or op_cat op_catA))
def rMulI : R2 := rI CMulW fun i j => .int (i * j)
def rMulG (K : PySem.W.Frag) : R2 := fun x y H Q => rMulI x y H Q ∨ rRep x y H Q ∨ rRepT K x y H Q
theorem op_mulG (hK : X.K = K) : OpR X (binaryOp .Mult) (rMulG K) := hK ▸ OpR.or op_mulW (OpR.or op_rep op_repT)
def rEqG (K : PySem.W.Frag) : R2 := fun x y H Q => rEq x y H Q ∨ rEqD K x y H Q
def rNeG (K : PySem.W.Frag) : R2 := fun x y H Q => rNe x y H Q ∨ rNeD K x y H Q
theorem op_eqG (hK : X.K = K) (hu : X.A.units + 64 < cLine) : OpR X (compareOp .Eq) (rEqG K) := OpR.or op_eq (op_eqDK hK hu)
theorem op_neG (hK : X.K = K) (hu : X.A.units + 64 < cLine) : OpR X (compareOp .NotEq) (rNeG K) := OpR.or op_ne (op_neDK hK hu)
def rLtS : R2 := fun x y H Q => ∃ i j, x = .str i ∧ y = .str j ∧ Q (.bl (decide (i.cps.toList < j.cps.toList))) H
def rInSign : R2 := fun x y H Q => ∃ (c : Nat) (z : Str), x = .str ⟨#[c]⟩ ∧ y = .str z ∧ Q (.bl (decide (c ∈ z.cps.toList))) H
def rNotInSign : R2 := fun x y H Q => ∃ (c : Nat) (z : Str), x = .str ⟨#[c]⟩ ∧ y = .str z ∧ Q (.bl (!decide (c ∈ z.cps.toList))) H
def rInG (K : PySem.W.Frag) : R2 := fun x y H Q => rIn K false x y H Q ∨ rInSign x y H Q ∨ rInD K x y H Q
def rNinG (K : PySem.W.Frag) : R2 := fun x y H Q => rIn K true x y H Q ∨ rNotInSign x y H Q ∨ rNotInD K x y H Q
theorem op_inG (hK : X.K = K) (hu : X.A.units + 65 < cLine) : OpR X (compareOp .In) (rInG K) := OpR.or (op_inK hK) (OpR.or op_in_sign (hK ▸ op_inD hu))
theorem op_ninG (hK : X.K = K) (hu : X.A.units + 65 < cLine) : OpR X (compareOp .NotIn) (rNinG K) := OpR.or (op_ninK hK) (OpR.or op_notIn_sign (hK ▸ op_notInD hu))
/-- len(d), list(d): d may be walked meanwhile -/
def rLenR : List V → Hp → VK → Prop := fun xs H Q => ∃ a kvs, xs = [V.ref a] ∧ Rd H a (.dK kvs) ∧ Q (.int kvs.length) H
theorem call_lenR : CallR X (.builtin "len") rLenR := by
  rintro pins z σ G xs us Q I r ⟨a, kvs, rfl, rd, q⟩
  obtain ⟨u, rfl, ru⟩ := vals1 r
  cases ru
  exact d_len I rd fun t z1 J => ⟨.int kvs.length, G, J, ⟨t, rfl⟩, q⟩
def rListR : List V → Hp → VK → Prop := fun xs H Q => ∃ a kvs, xs = [V.ref a] ∧ Rd H a (.dK kvs) ∧ ∀ p, H p = none → Q (.ref p) (upd H p (.lst (kvs.map fun kv => kV kv.1)))
theorem call_listR (hc : X.calm = true) : CallR X (.type "list") rListR := by
  rintro pins z σ G xs us Q I r ⟨a, kvs, rfl, rd, q⟩
  obtain ⟨u, rfl, ru⟩ := vals1 r
  cases ru
  obtain ⟨small, low, ws, rel, dct⟩ := rd.ok I.hok
  obtain ⟨ep, spot⟩ := dct.dictAt
  have same : kvs.length = ws.length := Paired.length rel
  refine PySem.W.kdl_call (PySem.W.kdl_dict (knd := mixKind X.prog X.w) (kvs := ws) (ep := ep) low) (I.ok.hd hc) spot (same ▸ small) ?_
  intro m tk got c kept stands told
  have keys : (kvs.map fun kv => kV kv.1) = (kvs.map (·.1)).map kV := by rw [List.map_map]; rfl
  have vs : Vals (kvs.map fun kv => kV kv.1) got.toList := by
    refine vals_of_at ?_ ?_
    · have el : got.toList.length = got.size := by simp
      rw [List.length_map, el, told.1, same]
    · intro j x v hx hv
      obtain ⟨k, y, hk, his⟩ := told.2 j v (by rw [← Array.getElem?_toList]; exact hv)
      have e1 : (kvs.map (·.1))[j]? = some k := by
        rw [KV.keys rel, List.getElem?_map, hk]
        rfl
      rw [keys, List.getElem?_map, e1] at hx
      cases hx
      exact keyIs_rel his
  have ok : ObjOk X.prog X.w (upd G z.heap.objs.size (.lst (kvs.map fun kv => kV kv.1))) m z.heap.objs.size (.lst (kvs.map fun kv => kV kv.1)) :=
    ⟨by rw [List.length_map]; exact small, got.toList, c, vs, by rw [Array.toArray_toList]; exact stands⟩
  exact ⟨.ref z.heap.objs.size, _, I.laid kept (Nat.le_refl _) ok, rfl, q _ (I.hok.fresh (Nat.le_refl _))⟩
def rLenA (K : PySem.W.Frag) : List V → Hp → VK → Prop := fun xs H Q => rLenG K xs H Q ∨ rLenR xs H Q
theorem call_lenA (hK : X.K = K) : CallR X (.builtin "len") (rLenA K) := CallR.or (call_lenG hK) call_lenR
def rListA (K : PySem.W.Frag) : List V → Hp → VK → Prop := fun xs H Q => rListOf K xs H Q ∨ rListR xs H Q
theorem call_listA (hK : X.K = K) (hc : X.calm = true) : CallR X (.type "list") (rListA K) := CallR.or (call_listK hK) (call_listR hc)
/-- a target: a tuple or a list, unpacked -/
def gSeq (K : PySem.W.Frag) (n : Nat) (t : TGs) : TG := fun v σ H Q => gTup K n t v σ H Q ∨ gLst K n t v σ H Q
theorem pg_seqK {es : List Expr} {kk n : Nat} {pos : Pos} {t : TGs} (hK : X.K = K) (hc : X.calm = true) (k : PGs X es t) (hn : (assignEach es X.env).length = n := by rfl) (hst : (assignEach es X.env).findIdx? (·.1) = none := by rfl) :
    PG X (.Tuple es kk pos) (gSeq K n t) where
  run := fun pins s σ H v u Q I r hw => by
    subst hK
    rcases hw with hw | hw
    · exact (pg_tup hc k hn hst).run pins s σ H v u Q I r hw
    · exact (pg_lst hc k hn hst).run pins s σ H v u Q I r hw
def rSlG (K : PySem.W.Frag) : V → Option Int → Option Int → Hp → VK → Prop := fun x l u H Q => rSlL K x l u H Q ∨ rSlA K x l u H Q ∨ rSlS x l u H Q
theorem sl_G (hK : X.K = K) : SlR X (rSlG K) := hK ▸ SlR.or sl_list (SlR.or sl_tupA sl_str)
theorem call_sortedIK (hK : X.K = K) (hc : CallR X (.builtin "sorted") (rSortedI X.K)) : CallR X (.builtin "sorted") (rSortedI K) := hK ▸ hc
end
section
variable {h : Hs} {Q : QD} {K : PySem.W.Frag} {x y d : D} {i j : Int} {xs ys ds : List D} {a b : Str} {l u : Option Int}
theorem dR2.il {r1 r2 : R2} (z : dR2 r1 x y h Q) : dR2 (fun x y H Q => r1 x y H Q ∨ r2 x y H Q) x y h Q := fun v w H Q' r dx dy p => .inl (z v w H Q' r dx dy p)
theorem dR2.ir {r1 r2 : R2} (z : dR2 r2 x y h Q) : dR2 (fun x y H Q => r1 x y H Q ∨ r2 x y H Q) x y h Q := fun v w H Q' r dx dy p => .inr (z v w H Q' r dx dy p)
theorem w_addI (q : Q (.int (i + j)) h) : dR2 (rAddG K) (.int i) (.int j) h Q := dR2.il (v_I0i q)
theorem w_addS (hl : a.length + b.length ≤ 1000000) (q : Q (.str (a ++ b)) h) : dR2 (rAddG K) (.str a) (.str b) h Q := dR2.ir (dR2.il (v_addS hl q))
theorem w_cat (hx : LsV h x xs) (hy : LsV h y ys) (hl : xs.length + ys.length ≤ 1000000) (q : Fresh (xs ++ ys) h Q) : dR2 (rAddG K) x y h Q := dR2.ir (dR2.ir (dR2.il (v_cat hx hy hl q)))
theorem w_catT (hl : xs.length + ys.length ≤ 1000000) (q : Q (.tup (xs ++ ys)) h) : dR2 (rAddG K) (.tup xs) (.tup ys) h Q := dR2.ir (dR2.ir (dR2.ir (v_catA hl q)))
theorem w_mulI (c : CMulW i j) (q : Q (.int (i * j)) h) : dR2 (rMulG K) (.int i) (.int j) h Q := dR2.il (v_Ii c q)
theorem w_rep1 (hx : LsV h x [d]) (hi : i ≤ 1000000 ∧ 0 ≤ i) (q : Fresh (List.replicate i.toNat d) h Q) : dR2 (rMulG K) x (.int i) h Q := dR2.ir (dR2.il (v_rep1 hx hi.1 hi.2 q))
theorem w_eqI (q : Q (.bl (decide (i = j))) h) : dR2 (rEqG K) (.int i) (.int j) h Q := dR2.il (v_eqI q)
theorem w_eqS (q : Q (.bl (decide (a = b))) h) : dR2 (rEqG K) (.str a) (.str b) h Q := dR2.il (v_eqS q)
theorem w_eqB {k m : Bool} (q : Q (.bl (decide (k = m))) h) : dR2 (rEqG K) (.bl k) (.bl m) h Q := dR2.il (v_eqB q)
theorem w_neI (q : Q (.bl (!decide (i = j))) h) : dR2 (rNeG K) (.int i) (.int j) h Q := dR2.il (v_neI q)
theorem w_neS (q : Q (.bl (!decide (a = b))) h) : dR2 (rNeG K) (.str a) (.str b) h Q := dR2.il (v_neS q)
theorem w_neB {k m : Bool} (q : Q (.bl (!decide (k = m))) h) : dR2 (rNeG K) (.bl k) (.bl m) h Q := dR2.il (v_neB q)
/-- what may be compared -/
def cmpOk (x : D) : Prop := okP x = true ∧ SeqAt.shaped (toP x) = true
theorem w_eqD (o1 : cmpOk x) (o2 : cmpOk y) (q : Q (.bl (PyData.eqv (toP x) (toP y))) h) : dR2 (rEqG K) x y h Q := dR2.ir (v_eqD o1.1 o2.1 o1.2 o2.2 q)
theorem w_neD (o1 : cmpOk x) (o2 : cmpOk y) (q : Q (.bl (!PyData.eqv (toP x) (toP y))) h) : dR2 (rNeG K) x y h Q := dR2.ir (v_neD o1.1 o2.1 o1.2 o2.2 q)
theorem w_inS {zs : List Str} (hv : SqV h x (zs.map .str)) (q : Q (.bl (decide (a ∈ zs))) h) : dR2 (rInG K) (.str a) x h Q := dR2.il (v_inS hv q)
theorem w_ninS {zs : List Str} (hv : SqV h x (zs.map .str)) (q : Q (.bl (!decide (a ∈ zs))) h) : dR2 (rNinG K) (.str a) x h Q := dR2.il (v_inS hv q)
theorem w_inI {zs : List Int} (hv : SqV h x (zs.map .int)) (q : Q (.bl (decide (i ∈ zs))) h) : dR2 (rInG K) (.int i) x h Q := dR2.il (v_inI hv q)
theorem w_ninI {zs : List Int} (hv : SqV h x (zs.map .int)) (q : Q (.bl (!decide (i ∈ zs))) h) : dR2 (rNinG K) (.int i) x h Q := dR2.il (v_inI hv q)
theorem w_inSign {c : Nat} (q : Q (.bl (decide (c ∈ a.cps.toList))) h) : dR2 (rInG K) (.str ⟨#[c]⟩) (.str a) h Q := dR2.ir (dR2.il (v_inSign q))
theorem dRA.il {r1 r2 : List V → Hp → VK → Prop} (z : dRA r1 xs h Q) : dRA (fun xs H Q => r1 xs H Q ∨ r2 xs H Q) xs h Q := fun v H Q' r dx p => .inl (z v H Q' r dx p)
theorem dRA.ir {r1 r2 : List V → Hp → VK → Prop} (z : dRA r2 xs h Q) : dRA (fun xs H Q => r1 xs H Q ∨ r2 xs H Q) xs h Q := fun v H Q' r dx p => .inr (z v H Q' r dx p)
theorem w_len (hv : SqV h x ds) (q : Q (.int ds.length) h) : dRA (rLenA K) [x] h Q := dRA.il (v_lenG hv q)
theorem w_lenS (hl : a.length ≤ 1000000) (q : Q (.int a.length) h) : dRA (rLenA K) [.str a] h Q := dRA.il (v_lenGS hl q)
theorem v_lenR {kds : List (Key × D)} (hv : DkV h x kds) (q : Q (.int kds.length) h) : dRA rLenR [x] h Q := fun vs H Q' r dx p => by
  cases dx with
  | cons dx dn =>
    cases dn
    obtain ⟨b, kvs, rfl, e, z⟩ := hv.at r dx
    exact ⟨b, kvs, rfl, e, post_id p r (.int _) (by rw [z.len]; exact q)⟩
theorem v_listR {kds : List (Key × D)} (hv : DkV h x kds) (q : Fresh (kds.map fun kv => kD kv.1) h Q) : dRA rListR [x] h Q := fun vs H Q' r dx p => by
  cases dx with
  | cons dx dn =>
    cases dn
    obtain ⟨b, kvs, rfl, e, z⟩ := hv.at r dx
    refine ⟨b, kvs, rfl, e, fun l nl => q.post p r nl ?_⟩
    have e1 : (kvs.map fun kv => kV kv.1) = (kvs.map (·.1)).map kV := by rw [List.map_map]; rfl
    have e2 : (kds.map fun kv => kD kv.1) = (kds.map (·.1)).map kD := by rw [List.map_map]; rfl
    rw [e1, e2, z.ks]
    exact dxA_keys _
theorem w_lenD {kds : List (Key × D)} (hv : DkV h x kds) (q : Q (.int kds.length) h) : dRA (rLenA K) [x] h Q := dRA.ir (v_lenR hv q)
theorem w_listD {kds : List (Key × D)} (hv : DkV h x kds) (q : Fresh (kds.map fun kv => kD kv.1) h Q) : dRA (rListA K) [x] h Q := dRA.ir (v_listR hv q)
theorem w_list (hv : SqV h x ds) (q : Fresh ds h Q) : dRA (rListA K) [x] h Q := dRA.il (v_listOf hv q)
theorem dRS.il {r1 r2 : V → Option Int → Option Int → Hp → VK → Prop} (z : dRS r1 x l u h Q) : dRS (fun x l u H Q => r1 x l u H Q ∨ r2 x l u H Q) x l u h Q := fun v H Q' r dx p => .inl (z v H Q' r dx p)
theorem dRS.ir {r1 r2 : V → Option Int → Option Int → Hp → VK → Prop} (z : dRS r2 x l u h Q) : dRS (fun x l u H Q => r1 x l u H Q ∨ r2 x l u H Q) x l u h Q := fun v H Q' r dx p => .inr (z v H Q' r dx p)
theorem w_slL (hv : LsV h x ds) (q : Fresh (dcut ds l u) h Q) : dRS (rSlG K) x l u h Q := dRS.il (v_slL hv q)
theorem w_slT (q : Q (.tup (dcut ds l u)) h) : dRS (rSlG K) (.tup ds) l u h Q := dRS.ir (dRS.il (v_slA q))
theorem w_slS (hl : a.length ≤ 1000000) (q : Q (.str (cutS a l u)) h) : dRS (rSlG K) (.str a) l u h Q := dRS.ir (dRS.ir (v_slS hl q))
theorem w_ixL (hv : LsV h x ds) (e : atI ds i = some d) (q : Q d h) : dR2 (rIx K) x (.int i) h Q := v_ix1 (v_ixL hv e q)
theorem w_ixT (e : atI ds i = some d) (q : Q d h) : dR2 (rIx K) (.tup ds) (.int i) h Q := v_ix2 (v_ixT e q)
theorem w_ixS {c : Nat} (hl : a.length ≤ 1000000) (e : atI a.cps.toList i = some c) (q : Q (.str ⟨#[c]⟩) h) : dR2 (rIx K) (.str a) (.int i) h Q := v_ix3 (v_ixS hl e q)
theorem g_seqT {n : Nat} {gs : TGs} {W : List Nat} {ρ : Rho} {N : Rho → Hs → Prop} (hl : xs.length = n) (z : dGs W gs xs ρ h N) : dG W (gSeq K n gs) (.tup xs) ρ h N := fun σ H v N' rl dx p => .inl (g_tup hl z σ H v N' rl dx p)
theorem g_seqL {n : Nat} {gs : TGs} {W : List Nat} {ρ : Rho} {N : Rho → Hs → Prop} (hx : LsV h x xs) (hl : xs.length = n) (z : dGs W gs xs ρ h N) : dG W (gSeq K n gs) x ρ h N := fun σ H v N' rl dx p => by
  obtain ⟨a, vs, rfl, e, a1⟩ := hx.at rl.rh dx
  exact .inr ⟨a, vs, rfl, .of e, by rw [a1.len]; exact hl, z σ H vs N' rl a1 p⟩
/-! ### the source -/
theorem fz_but {h : Hs} {H H' : Hp} {p : Addr} {o : DO} (e : h p = some o) (b : But p H H') : Fz h H' = Fz h H := by
  funext c
  by_cases q : c = p
  · subst q
    rw [fz_in e, fz_in e]
  · unfold Fz
    rw [b c q]
theorem relH_but {h : Hs} {H H' : Hp} {p la : Addr} (r : RelH h H) (e : h p = some (.src la)) (b : But p H H') (s : Src H' p la) : RelH h H' := by
  have f := fz_but e b
  refine ⟨fun c o ec => ?_, r.src⟩
  rw [f]
  by_cases q : c = p
  · subst q
    rw [e] at ec
    cases ec
    exact s
  · refine (r.cell c o ec).mono (sameU (Same.refl _)) (b c q) fun lb ez => ?_
    subst ez
    refine b lb ?_
    rintro rfl
    have := r.src c _ ec
    rw [e] at this
    cases this
end
/-- a number below a bound, drawn -/
def tDraw : TD := fun ds h Q => ∃ (a la : Addr) (m : Int), ds = [.ref a, .int m] ∧ h a = some (.src la) ∧ 0 < m ∧ m < 2 ^ 200 ∧ ∀ j : Int, 0 ≤ j → j < m → Q (.int j) h
end GX
namespace GX
open PySem L2
theorem units65 {k : Nat} {A : Around} (r : Room k A) : A.units + 65 < cLine := by have := r.un; omega
end GX

set_option Elab.async false
set_option linter.all false
set_option maxRecDepth 100000
set_option maxHeartbeats 4000000
/-! ### words for loops and comprehensions over data -/
namespace GX
open PySem L2 PySem.Spec
/-- what a walk needs stands, whatever new comes -/
def SdOk (Sd : Hs → Prop) (h : Hs) : Prop := (∀ p o, h p = none → Sd h → Sd (seth h p o)) ∧ Sd h
theorem SdOk.t {h : Hs} : SdOk (fun _ => True) h := ⟨fun _ _ _ _ => trivial, trivial⟩
theorem SdOk.c {h : Hs} {a : Addr} {o : DO} (e : h a = some o) : SdOk (fun h => h a = some o) h := ⟨fun p u n e => (seth_ne (h_ne e n)).trans e, e⟩
theorem SdOk.and {h : Hs} {S T : Hs → Prop} (a : SdOk S h) (b : SdOk T h) : SdOk (fun h => S h ∧ T h) h := ⟨fun p o n s => ⟨a.1 p o n s.1, b.1 p o n s.2⟩, a.2, b.2⟩
section
variable {ρ : Rho} {h : Hs} {Q : QD} {E : DEnds} {g : TG} {t : TS} {tt : TT} {te : TE} {vs : List Nat} {ds : List D} {Sd : Hs → Prop} {α β : Type}
theorem weak_wipe (ρ : Rho) (N : List Nat) : (wipeD ρ N).length = ρ.length ∧ ∀ (i : Nat) (d : D), (wipeD ρ N)[i]? = some (some d) → ρ[i]? = some (some d) := ⟨wipeD_len ρ N, fun i d e => by
  rw [wipeD_get] at e
  split at e
  · cases e
  · exact e⟩
theorem dG.slots {W : List Nat} {x : D} {ρ' : Rho} {N : Rho → Hs → Prop} (z : dG W g x ρ' h N) (l : ρ'.length = ρ.length) (w : ∀ (i : Nat) d, ρ'[i]? = some (some d) → ρ[i]? = some (some d)) : dG W g x ρ h N := fun σ H v N' rl dx p => z σ H v N' (rl.weak l w) dx p
/-- a for over data; N: the slots that are forgotten at each turn -/
theorem for_D (N : List Nat) (l : List α) (inj : α → D) (hds : ds = l.map inj) (Pv : Nat → Rho → Hs → Prop) (h0 : Pv 0 (wipeD ρ N) h) (hS : ∀ i ρ h, i ≤ l.length → Pv i ρ h → Sd h)
    (hs : ∀ (i : Nat) (a : α) ρ h, l[i]? = some a → Pv i ρ h → ∃ W, dG W g (inj a) ρ h fun ρ1 h1 => dS t ⟨fun ρ h => Pv (i + 1) (wipeD ρ N) h, E.rt, E.nx, fun ρ h => Pv (i + 1) (wipeD ρ N) h⟩ ρ1 h1)
    (hd : ∀ ρ h, Pv l.length ρ h → dS tNext E ρ h) : dFor g t E ρ ds Sd h := by
  subst hds
  refine ⟨fun i ρ h => Pv i (wipeD ρ N) h, h0, fun i ρ h hi p => hS i _ h (by rwa [List.length_map] at hi) p, fun i x ρ h e p => ?_, fun ρ h p => ?_⟩
  · obtain ⟨a, ea, rfl⟩ := get_map e
    obtain ⟨W, z⟩ := hs i a _ h ea p
    exact ⟨W, z.slots (weak_wipe ρ N).1 (weak_wipe ρ N).2⟩
  · rw [List.length_map] at p
    exact (hd _ h p).slots (weak_wipe ρ N).1 (weak_wipe ρ N).2
/-- .. by what is behind -/
theorem for_P (N : List Nat) (l : List α) (inj : α → D) (hds : ds = l.map inj) (Pv : List α → Rho → Hs → Prop) (h0 : Pv [] (wipeD ρ N) h) (hS : ∀ pre ρ h, Pv pre ρ h → Sd h)
    (hs : ∀ pre a post ρ h, l = pre ++ a :: post → Pv pre ρ h → ∃ W, dG W g (inj a) ρ h fun ρ1 h1 => dS t ⟨fun ρ h => Pv (pre ++ [a]) (wipeD ρ N) h, E.rt, E.nx, fun ρ h => Pv (pre ++ [a]) (wipeD ρ N) h⟩ ρ1 h1)
    (hd : ∀ ρ h, Pv l ρ h → dS tNext E ρ h) : dFor g t E ρ ds Sd h := by
  refine for_D N l inj hds (fun i ρ h => Pv (l.take i) ρ h) (by rw [List.take_zero]; exact h0) (fun i ρ h _ p => hS _ ρ h p) (fun i a ρ h e p => ?_) (fun ρ h p => hd ρ h (by rwa [List.take_length] at p))
  have hi := (List.getElem?_eq_some_iff.mp e).1
  have ea := (List.getElem?_eq_some_iff.mp e).2
  have z := hs (l.take i) a (l.drop (i + 1)) ρ h (by rw [← ea, List.getElem_cons_drop, List.take_append_drop]) p
  have et : l.take (i + 1) = l.take i ++ [a] := by rw [List.take_succ, e]; rfl
  rw [et]
  exact z
theorem tyes {R : Bool → Hs → Prop} {ρ : Rho} {h : Hs} (z : R true h) : dT tYes ρ h R := d_yes z
/-- what is made so far: acc, by a function of the items -/
theorem lc_gen (l : List α) (inj : α → D) (outj : β → D) (hds : ds = l.map inj) (Pv : Nat → List β → Prop) (hn : l.length ≤ 1000000) (hS : SdOk Sd h) (h0 : Pv 0 [])
    (hs : ∀ (p : Addr) (acc : List β) (i : Nat) (a : α), h p = none → l[i]? = some a → Pv i acc → acc.length ≤ i → dG vs g (inj a) (wipeD ρ vs) (seth h p (.lst (acc.map outj))) fun ρ1 h1 => h1 = seth h p (.lst (acc.map outj)) ∧
      dT tt ρ1 h1 fun b h2 => h2 = seth h p (.lst (acc.map outj)) ∧ if b = true then dE te ρ1 h2 fun y h3 => h3 = seth h p (.lst (acc.map outj)) ∧ ∃ b, y = outj b ∧ Pv (i + 1) (acc ++ [b]) else Pv (i + 1) acc)
    (hd : ∀ bs : List β, bs.length ≤ l.length → Pv l.length bs → Fresh (bs.map outj) h Q) : dLcGo g tt te vs ρ Q ds Sd h := by
  subst hds
  refine ⟨by rw [List.length_map]; exact hn, fun i acc => ∃ bs : List β, acc = bs.map outj ∧ Pv i bs, ⟨[], rfl, h0⟩, hS.1, hS.2, ?_, ?_⟩
  · rintro p i acc x np ex ⟨bs, rfl, hb⟩ hl
    obtain ⟨a, ea, rfl⟩ := get_map ex
    have z := hs p bs i a np ea hb (by rwa [List.length_map] at hl)
    refine fun σ H v N' rl dx q => z σ H v N' rl dx fun ρ' h' σ' H' q1 r s l2 u => q ρ' h' σ' H' ⟨q1.1, ?_⟩ r s l2 u
    refine fun σ2 H2 R2 rl2 p2 => q1.2 σ2 H2 R2 rl2 fun b h3 H3 q3 r3 s3 => p2 b h3 H3 ⟨q3.1, ?_⟩ r3 s3
    cases b with
    | true =>
      rw [if_pos rfl]
      have q4 := q3.2
      rw [if_pos rfl] at q4
      refine q4.mono fun y h3 q5 => ⟨q5.1, ?_⟩
      obtain ⟨b, rfl, hR⟩ := q5.2
      exact ⟨bs ++ [b], by rw [List.map_append]; rfl, hR⟩
    | false =>
      have q4 := q3.2
      rw [if_neg Bool.false_ne_true] at q4 ⊢
      exact ⟨bs, rfl, q4⟩
  · rintro acc hl ⟨bs, rfl, hb⟩
    rw [List.length_map] at hl hb
    exact hd bs (by rwa [List.length_map] at hl) hb
/-- [.. for x in l]: what each item is; drawn or not -/
theorem lc_rel (l : List α) (inj : α → D) (outj : β → D) (R : Nat → α → β → Prop) (hds : ds = l.map inj) (hn : l.length ≤ 1000000) (hS : SdOk Sd h)
    (hs : ∀ (p : Addr) (acc : List D) (i : Nat) (a : α), h p = none → l[i]? = some a → dG vs g (inj a) (wipeD ρ vs) (seth h p (.lst acc)) fun ρ1 h1 => h1 = seth h p (.lst acc) ∧ dE te ρ1 h1 fun y h3 => h3 = seth h p (.lst acc) ∧ ∃ b, y = outj b ∧ R i a b)
    (hd : ∀ bs : List β, bs.length = l.length → (∀ i a b, l[i]? = some a → bs[i]? = some b → R i a b) → Fresh (bs.map outj) h Q) : dLcGo g tYes te vs ρ Q ds Sd h := by
  refine lc_gen l inj outj hds (fun i bs => bs.length = i ∧ ∀ j a b, l[j]? = some a → bs[j]? = some b → R j a b) hn hS ⟨rfl, fun j a b _ e => by cases e⟩ ?_ ?_
  · rintro p bs i a np ea ⟨hl, hb⟩ _
    have z := hs p (bs.map outj) i a np ea
    refine fun σ H v N' rl dx q => z σ H v N' rl dx fun ρ' h' σ' H' q1 r s l2 u => q ρ' h' σ' H' ⟨q1.1, d_yes ⟨q1.1, ?_⟩⟩ r s l2 u
    rw [if_pos rfl]
    refine q1.2.mono fun y h3 q3 => ⟨q3.1, ?_⟩
    obtain ⟨b, rfl, hR⟩ := q3.2
    refine ⟨b, rfl, by rw [List.length_append, hl]; rfl, fun j a' b' e1 e2 => ?_⟩
    by_cases hj : j < bs.length
    · rw [List.getElem?_append_left hj] at e2
      exact hb j a' b' e1 e2
    · rw [List.getElem?_append_right (by omega)] at e2
      cases q0 : j - bs.length with
      | zero =>
        rw [q0] at e2
        cases e2
        have : j = i := by omega
        subst this
        rw [ea] at e1
        cases e1
        exact hR
      | succ m => rw [q0] at e2; cases e2
  · rintro bs _ ⟨hl, hb⟩
    exact hd bs hl hb
/-- .. a function of it -/
theorem lc_map (l : List α) (inj : α → D) (f : α → D) (hds : ds = l.map inj) (hn : l.length ≤ 1000000) (hS : SdOk Sd h)
    (hs : ∀ (p : Addr) (acc : List D) (i : Nat) (a : α), h p = none → l[i]? = some a → dG vs g (inj a) (wipeD ρ vs) (seth h p (.lst acc)) fun ρ1 h1 => h1 = seth h p (.lst acc) ∧ dE te ρ1 h1 fun y h3 => h3 = seth h p (.lst acc) ∧ y = f a)
    (hd : Fresh (l.map f) h Q) : dLcGo g tYes te vs ρ Q ds Sd h := by
  refine lc_rel l inj id (fun _ a b => b = f a) hds hn hS ?_ ?_
  · intro p acc i a np ea
    have z := hs p acc i a np ea
    refine fun σ H v N' rl dx q => z σ H v N' rl dx fun ρ' h' σ' H' q1 r s l2 u => q ρ' h' σ' H' ⟨q1.1, ?_⟩ r s l2 u
    exact q1.2.mono fun y h3 q3 => ⟨q3.1, y, rfl, q3.2⟩
  · intro bs hl hb
    rw [List.map_id]
    have : bs = l.map f := List.ext_getElem? fun i => by
      rw [List.getElem?_map]
      cases e : l[i]? with
      | none => rw [List.getElem?_eq_none (by rw [hl]; exact List.getElem?_eq_none_iff.mp e)]; rfl
      | some a =>
        have hi := (List.getElem?_eq_some_iff.mp e).1
        rw [List.getElem?_eq_getElem (by omega), hb i a _ e (List.getElem?_eq_getElem (by omega))]
        rfl
    rw [this]
    exact hd
/-- .. with a test -/
theorem lc_flt (l : List α) (inj : α → D) (c : α → Bool) (f : α → D) (hds : ds = l.map inj) (hn : l.length ≤ 1000000) (hS : SdOk Sd h)
    (hs : ∀ (p : Addr) (acc : List D) (i : Nat) (a : α), h p = none → l[i]? = some a → dG vs g (inj a) (wipeD ρ vs) (seth h p (.lst acc)) fun ρ1 h1 => h1 = seth h p (.lst acc) ∧
      dT tt ρ1 h1 fun b h2 => h2 = seth h p (.lst acc) ∧ b = c a ∧ (c a = true → dE te ρ1 h2 fun y h3 => h3 = seth h p (.lst acc) ∧ y = f a))
    (hd : Fresh ((l.filter c).map f) h Q) : dLcGo g tt te vs ρ Q ds Sd h := by
  refine lc_gen l inj id hds (fun i bs => bs = ((l.take i).filter c).map f) hn hS (by rw [List.take_zero]; rfl) ?_ ?_
  · rintro p bs i a np ea rfl _
    have z := hs p (((l.take i).filter c).map f) i a np ea
    rw [List.map_id]
    refine fun σ H v N' rl dx q => z σ H v N' rl dx fun ρ' h' σ' H' q1 r s l2 u => q ρ' h' σ' H' ⟨q1.1, ?_⟩ r s l2 u
    refine fun σ2 H2 R2 rl2 p2 => q1.2 σ2 H2 R2 rl2 fun b h3 H3 q3 r3 s3 => p2 b h3 H3 ⟨q3.1, ?_⟩ r3 s3
    obtain ⟨_, rfl, q4⟩ := q3
    have et : l.take (i + 1) = l.take i ++ [a] := by rw [List.take_succ, ea]; rfl
    by_cases hc : c a = true
    · rw [if_pos hc]
      refine (q4 hc).mono fun y h3 q5 => ⟨q5.1, y, rfl, ?_⟩
      rw [q5.2, et, List.filter_append, List.map_append, List.filter_cons, if_pos hc]
      rfl
    · rw [if_neg hc, et, List.filter_append, List.filter_cons, if_neg hc, List.filter_nil, List.append_nil]
  · rintro bs _ rfl
    rw [List.map_id, List.take_length]
    exact hd
end
end GX
/-! ### small answers -/
namespace GX
open PySem L2 PySem.Spec
section
variable {h : Hs} {ds : List D} {C : Addr} {fs : List (Str × D)} {x y : D}
theorem x_rg1 {j : Int} {R : Int → Prop} (b : -(2 ^ 62) ≤ j ∧ j < 2 ^ 62) (q : R j) : ∃ k : Int, [D.int j] = [.int k] ∧ (-(2 ^ 62) ≤ k ∧ k < 2 ^ 62) ∧ R k := ⟨j, rfl, b, q⟩
theorem x_rg2 {i j : Int} {R : Int → Int → Prop} (b : -(2 ^ 62) ≤ i ∧ i < 2 ^ 62 ∧ -(2 ^ 62) ≤ j ∧ j < 2 ^ 62) (q : R i j) : ∃ i' j' : Int, [D.int i, .int j] = [.int i', .int j'] ∧ (-(2 ^ 62) ≤ i' ∧ i' < 2 ^ 62 ∧ -(2 ^ 62) ≤ j' ∧ j' < 2 ^ 62) ∧ R i' j' := ⟨i, j, rfl, b, q⟩
theorem x_part {i : Int} {R : Int → Prop} (q : R i) : ∃ k, D.int i = .int k ∧ R k := ⟨i, rfl, q⟩
theorem x_strE {s : Str} {R : Str → Prop} (q : R s) : ∃ k, D.str s = .str k ∧ R k := ⟨s, rfl, q⟩
theorem x_seqF {R : List D → (Hs → Prop) → Prop} (q : R ds fun _ => True) : ∃ es Sd, SqI h (.lst ds) es Sd ∧ R es Sd := ⟨ds, _, .f, q⟩
theorem x_seqT {R : List D → (Hs → Prop) → Prop} (q : R ds fun _ => True) : ∃ es Sd, SqI h (.tup ds) es Sd ∧ R es Sd := ⟨ds, _, .t, q⟩
theorem x_seqC {a : Addr} {R : List D → (Hs → Prop) → Prop} (e : h a = some (.lst ds)) (q : R ds fun h => h a = some (.lst ds)) : ∃ es Sd, SqI h (.ref a) es Sd ∧ R es Sd := ⟨ds, _, .c e, q⟩
theorem x_lstF {R : List D → (Hs → Prop) → Prop} (q : R ds fun _ => True) : ∃ y es Sd, [D.lst ds] = [y] ∧ LsI h y es Sd ∧ R es Sd := ⟨_, ds, _, rfl, .f, q⟩
theorem x_lstC {a : Addr} {R : List D → (Hs → Prop) → Prop} (e : h a = some (.lst ds)) (q : R ds fun h => h a = some (.lst ds)) : ∃ y es Sd, [D.ref a] = [y] ∧ LsI h y es Sd ∧ R es Sd := ⟨_, ds, _, rfl, .c e, q⟩
theorem x_size {xs : List D} {R : Prop} (b : xs.length ≤ 1000) (q : R) : xs.length ≤ 1000000 ∧ R := ⟨Nat.le_trans b (by decide), q⟩
theorem x_isL {R : Prop} {a : Addr} (e : h a = some (.lst ds)) (q : R) : (∃ es, LsV h (.ref a) es) ∧ R := ⟨⟨ds, .c e⟩, q⟩
theorem x_isLf {R : Prop} (q : R) : (∃ es, LsV h (.lst ds) es) ∧ R := ⟨⟨ds, .f⟩, q⟩
theorem x_fldF {K : PySem.W.Frag} {f : Str} {R : D → Prop} (c : Cls K C) (n : NoAttr K C f) (l : fs.lookup f = some y) (q : R y) : ∃ C' fs' y', InsV h (.ins C fs) C' fs' ∧ Cls K C' ∧ NoAttr K C' f ∧ fs'.lookup f = some y' ∧ R y' := ⟨C, fs, y, .f, c, n, l, q⟩
theorem x_fldC {K : PySem.W.Frag} {f : Str} {a : Addr} {R : D → Prop} (e : h a = some (.ins C fs)) (c : Cls K C) (n : NoAttr K C f) (l : fs.lookup f = some y) (q : R y) : ∃ C' fs' y', InsV h (.ref a) C' fs' ∧ Cls K C' ∧ NoAttr K C' f ∧ fs'.lookup f = some y' ∧ R y' := ⟨C, fs, y, .c e, c, n, l, q⟩
theorem x_methF {m : Str} {R : Prop} (l : fs.lookup m = none) (q : R) : ∃ fs', InsV h (.ins C fs) C fs' ∧ fs'.lookup m = none ∧ R := ⟨fs, .f, l, q⟩
theorem x_methC {m : Str} {a : Addr} {R : Prop} (e : h a = some (.ins C fs)) (l : fs.lookup m = none) (q : R) : ∃ fs', InsV h (.ref a) C fs' ∧ fs'.lookup m = none ∧ R := ⟨fs, .c e, l, q⟩
theorem d_retF {te : TE} {E : DEnds} {ρ : Rho} (z : dE te ρ h fun x h1 => ∃ y h2, Frz h1 x y h2 ∧ E.rt y h2) : dS (tRet te) E ρ h := d_ret (d_frz z)
theorem frz0 {R : D → Hs → Prop} (q : R x h) : ∃ y h2, Frz h x y h2 ∧ R y h2 := ⟨x, h, .id, q⟩
theorem g_nameV {n : Nat} {vs : List Nat} {ρ : Rho} {N : Rho → Hs → Prop} (hm : n ∈ vs) (z : N (ρ.set n (some x)) h) : dG vs (gName n) x ρ h N := fun σ H v N' rl dx p =>
  p _ h _ H z (rl.set dx n) (Same.refl _) (List.length_set ..) fun i hi => List.getElem?_set_ne fun q => hi (by rw [← q]; exact hm)
theorem g_nilV {vs : List Nat} {ρ : Rho} {N : Rho → Hs → Prop} (z : N ρ h) : dGs vs gNil [] ρ h N := fun σ H v N' rl dx p => by
  cases dx
  exact ⟨rfl, p ρ h σ H z rl (Same.refl _) rfl fun _ _ => rfl⟩
theorem g_consV {vs : List Nat} {g : TG} {gs : TGs} {xs : List D} {ρ : Rho} {N : Rho → Hs → Prop} (z : dG vs g x ρ h fun ρ1 h1 => dGs vs gs xs ρ1 h1 N) : dGs vs (gCons g gs) (x :: xs) ρ h N := fun σ H us N' rl dx p => by
  cases dx with
  | cons d1 dx =>
    refine ⟨_, _, rfl, z σ H _ _ rl d1 fun ρ1 h1 σ1 H1 q r s l1 u => q σ1 H1 _ N' r (dx.mono s) fun ρ2 h2 σ2 H2 q2 r2 s2 l2 u2 => ?_⟩
    exact p ρ2 h2 σ2 H2 q2 r2 (s.trans s2) (l2.trans l1) fun i hi => (u2 i hi).trans (u i hi)
theorem x_same {P : Prop} {h : Hs} (q : P) : h = h ∧ P := ⟨rfl, q⟩
theorem Fresh.toF {ds : List D} {Q : QD} (f : Fresh ds h Q) : Fresh ds h fun x h1 => ∃ y h2, Frz h1 x y h2 ∧ Q y h2 := by
  rcases f with q | q
  · exact .inl (frz0 q)
  · exact .inr fun a na => frz0 (q a na)
theorem x_M {R : Str → Prop} {s : Str} (q : R s) : ∃ a, D.str s = .str a ∧ R a := ⟨s, rfl, q⟩
end
section
variable {ρ : Rho} {h : Hs} {E : DEnds} {t : TS} {c : TT}
theorem dT.slots {ρ' : Rho} {R : Bool → Hs → Prop} (z : dT c ρ' h R) (l : ρ'.length = ρ.length) (w : ∀ (i : Nat) d, ρ'[i]? = some (some d) → ρ[i]? = some (some d)) : dT c ρ h R := fun σ H Q' rl p => z σ H Q' (rl.weak l w) p
theorem dT.mono {R R2 : Bool → Hs → Prop} (z : dT c ρ h R) (k : ∀ b h, R b h → R2 b h) : dT c ρ h R2 := fun σ H Q' rl p => z σ H Q' rl fun b h' H' q r s => p b h' H' (k b h' q) r s
/-- a while; N: the slots that are forgotten at each turn -/
theorem while_D (N : List Nat) (W : Nat → Rho → Hs → Prop) (m0 : Nat) (w0 : W m0 (wipeD ρ N) h)
    (hs : ∀ m ρ h, W m ρ h → dT c ρ h fun b h1 => if b = true then dS t ⟨fun ρ h => ∃ m', m' < m ∧ W m' (wipeD ρ N) h, E.rt, E.nx, fun ρ h => ∃ m', m' < m ∧ W m' (wipeD ρ N) h⟩ ρ h1 else dS tNext E ρ h1) : dS (tWhile c t) E ρ h := by
  refine d_while (fun m ρ h => W m (wipeD ρ N) h) m0 w0 fun m ρ h w => ?_
  refine ((hs m _ h w).slots (weak_wipe ρ N).1 (weak_wipe ρ N).2).mono fun b h1 q => ?_
  cases b with
  | true =>
    rw [if_pos rfl] at q ⊢
    exact q.slots (weak_wipe ρ N).1 (weak_wipe ρ N).2
  | false =>
    rw [if_neg Bool.false_ne_true] at q ⊢
    exact q.slots (weak_wipe ρ N).1 (weak_wipe ρ N).2
end
theorem cmul_small {i j : Int} (hi : -1000000000000 ≤ i ∧ i ≤ 1000000000000) (hj : -1000000000000 ≤ j ∧ j ≤ 1000000000000) : CMulW i j := by
  have big : (1000000000000 : Nat) < 2 ^ 40 := by decide
  exact wide_mul (a := 40) (b := 40) (by omega) (by omega) (by decide) (by decide) (by decide)
end GX

set_option Elab.async false
set_option linter.all false
set_option maxRecDepth 100000
set_option maxHeartbeats 4000000
/-! ### names, words: the mathematics -/
namespace GX
open PySem L2 PySem.Spec TL
def alphabet : Str := "abcdefghijklmnopqrstuvwxyz"
/-- whether a text is a name -/
def isNm (z : Str) : Bool := (decide (1 ≤ (z.length : Int)) && decide ((z.length : Int) ≤ 8)) &&
  z.cps.toList.all fun c => decide (c ∈ alphabet.cps.toList)
/-- a text of these signs -/
def txt (cs : List Nat) : Str := ⟨cs.toArray⟩
abbrev one (c : Nat) : Str := ⟨#[c]⟩
theorem join_ones : ∀ cs : List Nat, joinL [] (cs.map fun c => [c]) = cs
  | [] => rfl
  | [_] => rfl
  | a :: b :: r => by
    show [a] ++ ([] ++ joinL [] ((b :: r).map fun c => [c])) = a :: b :: r
    rw [join_ones (b :: r)]
    rfl
theorem joined_ones (cs : List Nat) : Txt.join Str.empty (cs.map one) = txt cs := by
  rw [join_eq]
  have e := tl_join Str.empty (cs.map one)
  rw [List.map_map] at e
  refine ext_tl (e.trans ((join_ones cs).trans ?_))
  unfold tl txt
  simp
theorem ones_len (cs : List Nat) : ((cs.map one).map (·.length)).sum = cs.length := by
  induction cs with
  | nil => rfl
  | cons c r ih =>
    show 1 + ((r.map one).map (·.length)).sum = r.length + 1
    rw [ih]
    omega
theorem ones_v (cs : List Nat) : (cs.map one).map V.str = cs.map fun c => V.str (one c) := by
  rw [List.map_map]
  rfl
theorem perm_map_inv {α β : Type} (f : α → β) {ys zs : List β} (h : ys.Perm zs) : ∀ l : List α, zs = l.map f → ∃ l' : List α, ys = l'.map f ∧ l'.Perm l := by
  induction h with
  | nil =>
    intro l e
    cases l with
    | nil => exact ⟨[], rfl, List.Perm.refl _⟩
    | cons => cases e
  | cons x _ ih =>
    intro l e
    cases l with
    | nil => cases e
    | cons a l =>
      rw [List.map_cons] at e
      obtain ⟨e1, e2⟩ := List.cons.inj e
      obtain ⟨l', h1, h2⟩ := ih l e2
      exact ⟨a :: l', by rw [List.map_cons, h1, e1], h2.cons a⟩
  | swap x y _ =>
    intro l e
    cases l with
    | nil => cases e
    | cons a l =>
      cases l with
      | nil => cases e
      | cons b l =>
        rw [List.map_cons, List.map_cons] at e
        obtain ⟨e1, e2⟩ := List.cons.inj e
        obtain ⟨e2, e3⟩ := List.cons.inj e2
        exact ⟨b :: a :: l, by rw [List.map_cons, List.map_cons, e1, e2, e3], List.Perm.swap _ _ _⟩
  | trans _ _ ih1 ih2 =>
    intro l e
    obtain ⟨l2, h1, h2⟩ := ih2 l e
    obtain ⟨l3, h3, h4⟩ := ih1 l2 h1
    exact ⟨l3, h3, h4.trans h2⟩
theorem dcut_take {α : Type} {xs : List α} (n : Nat) : dcut xs none (some (n : Int)) = xs.take n := by
  unfold dcut
  rw [HT.sIx_none, HT.sIx_nat]
  show (xs.drop 0).take (min n xs.length - 0) = _
  rw [List.drop_zero, Nat.sub_zero]
  by_cases h : n ≤ xs.length
  · rw [Nat.min_eq_left h]
  · rw [Nat.min_eq_right (by omega), List.take_of_length_le (Nat.le_refl _), List.take_of_length_le (by omega)]
theorem cutS_take {cs : List Nat} (n : Nat) : cutS (txt cs) none (some (n : Int)) = txt (cs.take n) := by
  have e : (txt cs).length = cs.length := rfl
  unfold cutS
  rw [HT.sIx_none, HT.sIx_nat, e]
  show txt ((cs.drop 0).take (min n cs.length - 0)) = _
  rw [List.drop_zero, Nat.sub_zero]
  by_cases h : n ≤ cs.length
  · rw [Nat.min_eq_left h]
  · rw [Nat.min_eq_right (by omega), List.take_of_length_le (Nat.le_refl _), List.take_of_length_le (by omega)]
theorem cutS_drop {cs : List Nat} (n : Nat) : cutS (txt cs) (some (n : Int)) none = txt (cs.drop n) := by
  have e : (txt cs).length = cs.length := rfl
  unfold cutS
  rw [HT.sIx_none, HT.sIx_nat, e]
  show txt ((cs.drop (min n cs.length)).take (cs.length - min n cs.length)) = _
  by_cases h : n ≤ cs.length
  · rw [Nat.min_eq_left h, List.take_of_length_le (by rw [List.length_drop]; exact Nat.le_refl _)]
  · rw [Nat.min_eq_right (by omega), Nat.sub_self, List.take_zero, List.drop_of_length_le (by omega)]
theorem txt_app (a b : List Nat) : txt a ++ txt b = txt (a ++ b) := by
  show (⟨a.toArray ++ b.toArray⟩ : Str) = ⟨(a ++ b).toArray⟩
  rw [List.append_toArray]
theorem txt_inj {a b : List Nat} (h : txt a = txt b) : a = b := by
  have := congrArg (fun z : Str => z.cps.toList) h
  exact this
theorem isNm_txt {l : List Nat} (h1 : 1 ≤ l.length) (h8 : l.length ≤ 8) (h : ∀ c ∈ l, c ∈ alphabet.cps.toList) : isNm (txt l) = true := by
  have e : (txt l).length = l.length := rfl
  unfold isNm
  rw [e, decide_eq_true (by omega), decide_eq_true (by omega)]
  exact List.all_eq_true.mpr fun c hc => decide_eq_true (h c hc)
/-- distinct names -/
structure Names (zs : List Str) : Prop where
  nd : zs.Nodup
  nm : ∀ z ∈ zs, isNm z = true ∧ z.length ≤ 8
theorem Names.sub {zs ys : List Str} (h : Names zs) (s : ys.Sublist zs) : Names ys := ⟨h.nd.sublist s, fun z hz => h.nm z (s.subset hz)⟩
theorem names_made (cs ls : List Nat) (j : Nat) (h7 : cs.length ≤ 7) (h : ∀ c ∈ cs, c ∈ alphabet.cps.toList) (nd : ls.Nodup) (hl : ∀ c ∈ ls, c ∈ alphabet.cps.toList) :
    Names (ls.map fun c => txt (cs.take j ++ [c] ++ cs.drop j)) := by
  have len : ∀ c, (cs.take j ++ [c] ++ cs.drop j).length = cs.length + 1 := fun c => by
    rw [List.length_append, List.length_append, List.length_take, List.length_drop]
    show min j cs.length + 1 + (cs.length - j) = _
    omega
  refine ⟨List.nodup_iff_pairwise_ne.mpr ?_, ?_⟩
  · rw [List.pairwise_map]
    refine (List.nodup_iff_pairwise_ne.mp nd).imp fun {a b} ne e => ne ?_
    have e := txt_inj e
    rw [List.append_assoc, List.append_assoc] at e
    have e := List.append_cancel_left e
    exact (List.cons.inj e).1
  · intro z hz
    obtain ⟨c, hc, rfl⟩ := List.mem_map.mp hz
    refine ⟨isNm_txt (by rw [len]; omega) (by rw [len]; omega) fun d hd => ?_, ?_⟩
    · rcases List.mem_append.mp hd with h1 | h1
      · rcases List.mem_append.mp h1 with h2 | h2
        · exact h d (List.mem_of_mem_take h2)
        · rw [List.mem_singleton.mp h2]
          exact hl c hc
      · exact h d (List.mem_of_mem_drop h1)
    · show (cs.take j ++ [c] ++ cs.drop j).length ≤ 8
      rw [len]
      omega
theorem alpha_nd : alphabet.cps.toList.Nodup := by decide +kernel
theorem alpha_len : alphabet.cps.size = 26 := by decide +kernel
theorem dcut_drop {α : Type} {xs : List α} (n : Nat) : dcut xs (some (n : Int)) none = xs.drop n := by
  unfold dcut
  rw [HT.sIx_none, HT.sIx_nat]
  by_cases h : n ≤ xs.length
  · rw [Nat.min_eq_left h, List.take_of_length_le (by rw [List.length_drop]; exact Nat.le_refl _)]
  · rw [Nat.min_eq_right (by omega), Nat.sub_self, List.take_zero, List.drop_of_length_le (by omega)]
theorem lts_of {vs : List D} {l : List Nat} (h : vs.Perm (l.map fun c => .str (one c))) : ∃ l' : List Nat, vs = l'.map (fun c => .str (one c)) ∧ l'.Perm l := perm_map_inv _ h l rfl
theorem signsD_one (z : Str) : signsD z = z.cps.toList.map fun c => .str (one c) := rfl
theorem rngD_nat (n : Nat) : rngD 0 1 (n : Int).toNat = (List.range n).map fun i : Nat => D.int (i : Int) := by
  unfold rngD
  rw [Int.toNat_natCast]
  refine List.map_congr_left fun i _ => ?_
  rw [Int.zero_add, Int.mul_one]
theorem rngD_n (n : Nat) : rngD 0 1 n = (List.range n).map fun i : Nat => D.int (i : Int) := by
  have := rngD_nat n
  rwa [Int.toNat_natCast] at this
theorem map_map' {α β γ : Type} (f : α → β) (g : β → γ) (l : List α) : l.map (fun x => g (f x)) = (l.map f).map g := by rw [List.map_map]; rfl
theorem isNm_no1 {z : Str} (e : decide (1 ≤ (z.length : Int)) = false) : isNm z = false := by unfold isNm; rw [e]; rfl
theorem isNm_no2 {z : Str} (e : decide ((z.length : Int) ≤ 8) = false) : isNm z = false := by unfold isNm; rw [e, Bool.and_false, Bool.false_and]
theorem isNm_yes {z : Str} (e : decide (1 ≤ (z.length : Int)) = true) (f : decide ((z.length : Int) ≤ 8) = true) : isNm z = (z.cps.toList.map fun c => decide (c ∈ alphabet.cps.toList)).all id := by unfold isNm; rw [e, f, List.all_map]; rfl
end GX

set_option Elab.async false
set_option linter.all false
set_option maxRecDepth 100000
set_option maxHeartbeats 4000000
/-! ### signatures as data: the mathematics -/
namespace GX
open PySem L2 PySem.Spec
/-- closed under the constructors -/
def Closed (ts : List Trip) (r : List Str) : Prop := ∀ t ∈ ts, (∀ p ∈ t.2.2, p ∈ r) → t.2.1 ∈ r
theorem Fint.mem {ts : List Trip} {r : List Str} (c : Closed ts r) : ∀ {k : Str}, Fint ts k → k ∈ r := by
  intro k h
  induction h with
  | mk ht _ ih => exact c _ ht ih
theorem kinds_le (ts : List Trip) : (kindsOf ts).length ≤ ts.length := by
  revert ts
  refine snoc_ind (Nat.le_refl _) ?_
  intro ts t ih
  rw [kindsOf_app, List.length_append]
  unfold addKind
  split
  · exact Nat.le_trans ih (Nat.le_add_right _ _)
  · rw [List.length_append]
    exact Nat.add_le_add_right ih 1
/-- how many kinds are not found yet -/
def left (ts : List Trip) (r : List Str) : Nat := ((kindsOf ts).filter fun k => decide (k ∉ r)).length
theorem filter_less {α : Type} (p q : α → Bool) : ∀ (l : List α) (k : α), k ∈ l → p k = true → q k = false → (∀ x, q x = true → p x = true) →
    (l.filter q).length < (l.filter p).length := by
  intro l k hk hp hq hi
  have sub : ∀ l : List α, (l.filter q).length ≤ (l.filter p).length := by
    intro l
    induction l with
    | nil => exact Nat.le_refl _
    | cons a r ih =>
      rw [List.filter_cons, List.filter_cons]
      cases ha : q a with
      | true =>
        rw [if_pos rfl, if_pos (hi a ha)]
        exact Nat.succ_le_succ ih
      | false =>
        rw [if_neg (by decide)]
        split
        · exact Nat.le_succ_of_le ih
        · exact ih
  induction l with
  | nil => cases hk
  | cons a r ih =>
    rw [List.filter_cons, List.filter_cons]
    rcases List.mem_cons.mp hk with e | e
    · subst e
      rw [if_neg (by rw [hq]; decide), if_pos hp]
      exact Nat.lt_succ_of_le (sub r)
    · have z := ih e
      cases ha : q a with
      | true =>
        rw [if_pos rfl, if_pos (hi a ha)]
        exact Nat.succ_lt_succ z
      | false =>
        rw [if_neg (by decide)]
        split
        · exact Nat.lt_succ_of_lt z
        · exact z
theorem left_less {ts : List Trip} {r : List Str} {k : Str} (hk : k ∈ kindsOf ts) (hr : k ∉ r) : left ts (r ++ [k]) < left ts r := by
  refine filter_less _ _ _ k hk (decide_eq_true hr) ?_ ?_
  · exact decide_eq_false fun q => q (List.mem_append_right _ (List.mem_singleton.mpr rfl))
  · intro x hx
    exact decide_eq_true fun q => of_decide_eq_true hx (List.mem_append_left _ q)
/-- a triple, a list of them -/
abbrev strsD (zs : List Str) : List D := zs.map .str
abbrev trD (t : Trip) : D := .tup [.str t.1, .str t.2.1, .tup (strsD t.2.2)]
theorem seth_id {h : Hs} {a : Addr} {o : DO} (e : h a = some o) : seth h a o = h := by
  funext b; unfold seth
  by_cases q : b = a
  · subst q; rw [if_pos rfl, e]
  · rw [if_neg q]
section
variable {ρ : Rho} {h : Hs} {Q : QD} {x : D}
/-- [.. for k in d], d data or a cell, the items no matter where -/
theorem d_lockLcV {w : TI} {td : TE} {sel : List (Key × D) → List D} {g : TG} {tt : TT} {te : TE} {vs : List Nat} {kds : List (Key × D)} (hw : WalksD w td sel) (hd : Det td ρ h x) (hv : DkV h x kds)
    (z : ∀ h1 Sd Q1, SdOk Sd h1 → (∀ a o, h a = some o → (∀ kds, o ≠ .dK kds) → h1 a = some o) → (∀ ys, Fresh ys h Q → Fresh ys h1 Q1) → dLcGo g tt te vs ρ Q1 (sel kds) Sd h1) : dE (tLockEU (tLc w g tt te vs)) ρ h Q := by
  rcases hv with rfl | ⟨d, rfl, e | ⟨o, kvs, e⟩⟩
  · exact d_lockLc hw hd (z h _ Q .t (fun _ _ e _ => e) fun _ q => q)
  · refine d_lockLcC hw hd e fun od kvs => z _ _ _ (.c seth_same) (fun a o ea n => (seth_ne (fun q => by rw [q, e] at ea; exact n _ (Option.some.inj ea).symm)).trans ea) fun ys q => ?_
    rcases q with q | q
    · refine .inl ⟨seth_same, ?_⟩
      rw [seth_seth, seth_id e]
      exact q
    · refine .inr fun a na => ?_
      have ne : a ≠ d := fun z => by
        rw [z, seth_same] at na
        cases na
      rw [seth_ne ne] at na
      refine ⟨by rw [seth_ne ne.symm, seth_same], ?_⟩
      rw [seth_comm ne, seth_seth, seth_id e]
      exact q a na
  · refine fun σ H Q' rl p => .inr ?_
    obtain ⟨v, dv, k⟩ := hd σ H rl
    cases dv
    obtain ⟨e2, a, b⟩ := rl.rh.cell d _ e
    refine r_lc (hw σ H d o kvs kds h (fun h' => h' d = some (.dKl o kvs kds)) _ (fun Q q => k H (sameU (Same.refl H)) Q q) e2 ?_ fun J it => lcgo_of rl p it (z h _ Q (.c e) (fun _ _ e _ => e) fun _ q => q))
    intro h' H' r s
    obtain ⟨e3, a3, b3⟩ := r.cell d _ s.1
    exact ⟨e3, a3, b3⟩
/-- for k in d, the turns leave the cells as they are -/
theorem d_lockForV {w : TI} {td : TE} {sel : List (Key × D) → List D} {g : TG} {t : TS} {E : DEnds} {kds : List (Key × D)} (hw : WalksD w td sel) (hd : Det td ρ h x) (hv : DkV h x kds)
    (z : ∀ h1 Sd E1, Sd h1 → (∀ a o, h a = some o → (∀ kds, o ≠ .dK kds) → h1 a = some o) → (∀ y ks, DkV h y ks → DkV h1 y ks) → (∀ ρ', E.nx ρ' h → E1.nx ρ' h1) → (∀ y, E.rt y h → E1.rt y h1) → dFor g t E1 ρ (sel kds) Sd h1) : dS (tLockU (tFor w g t)) E ρ h := by
  rcases hv with rfl | ⟨d, rfl, e | ⟨o, kvs, e⟩⟩
  · exact d_lockFor hw hd (z h _ E trivial (fun _ _ e _ => e) (fun _ _ e => e) (fun _ q => q) fun _ q => q)
  · refine d_lockForC hw hd e fun od kvs => z _ _ _ seth_same (fun a o ea n => ?_) (fun y ks hy => ?_) (fun ρ' q => ⟨seth_same, ?_⟩) (fun y q => ⟨seth_same, ?_⟩)
    · rw [seth_ne]
      · exact ea
      · rintro rfl
        rw [e] at ea
        exact n _ (Option.some.inj ea).symm
    · rcases hy with rfl | ⟨b, rfl, hb⟩
      · exact .f
      · by_cases q : b = d
        · subst q
          rcases hb with hb | ⟨o, us, hb⟩
          · rw [e] at hb
            cases hb
            exact .k seth_same
          · rw [e] at hb
            cases hb
        · rcases hb with hb | ⟨o, us, hb⟩
          · exact .c ((seth_ne q).trans hb)
          · exact .k ((seth_ne q).trans hb)
    · rw [seth_seth, seth_id e]
      exact q
    · rw [seth_seth, seth_id e]
      exact q
  · refine fun σ H E' rl p => .inr ?_
    obtain ⟨v, dv, k⟩ := hd σ H rl
    cases dv
    obtain ⟨e2, a, b⟩ := rl.rh.cell d _ e
    refine r_for (hw σ H d o kvs kds h (fun h' => h' d = some (.dKl o kvs kds)) _ (fun Q q => k H (sameU (Same.refl H)) Q q) e2 ?_ fun J it => forgo_of rl p it (z h _ E e (fun _ _ e _ => e) (fun _ _ e => e) (fun _ q => q) fun _ q => q))
    intro h' H' r s
    obtain ⟨e3, a3, b3⟩ := r.cell d _ s.1
    exact ⟨e3, a3, b3⟩
end
end GX

set_option Elab.async false
set_option linter.all false
set_option maxRecDepth 100000
set_option maxHeartbeats 4000000
/-! ### dicts by functions, a signature's data -/
namespace GX
open PySem L2 PySem.Spec
section
variable {κ α : Type} [DecidableEq κ]
theorem dval_at (f : α → κ) (v : α → D) : ∀ (ts : List α) (t : α), t ∈ ts → (ts.map f).Nodup → dval (ts.map fun t => (f t, v t)) (f t) = some (v t) := by
  intro ts t ht nd
  induction ts with
  | nil => cases ht
  | cons a r ih =>
    rw [List.map_cons, List.nodup_cons] at nd
    unfold dval
    rw [List.map_cons, List.find?_cons]
    rcases List.mem_cons.mp ht with e | e
    · subst e
      simp
    · have ne : ¬ f a = f t := fun q => nd.1 (by
        rw [q]
        exact List.mem_map_of_mem e)
      rw [decide_eq_false ne]
      exact ih e nd.2
theorem dval_none (f : α → κ) (v : α → D) : ∀ (ts : List α) (z : κ), z ∉ ts.map f → dval (ts.map fun t => (f t, v t)) z = none := by
  intro ts z hz
  induction ts with
  | nil => rfl
  | cons a r ih =>
    rw [List.map_cons, List.mem_cons, not_or] at hz
    unfold dval
    rw [List.map_cons, List.find?_cons]
    have ne : ¬ f a = z := fun q => hz.1 q.symm
    rw [decide_eq_false ne]
    exact ih hz.2
theorem dval_isSome (f : α → κ) (v : α → D) (ts : List α) (z : κ) (nd : (ts.map f).Nodup) : (dval (ts.map fun t => (f t, v t)) z).isSome = decide (z ∈ ts.map f) := by
  by_cases h : z ∈ ts.map f
  · obtain ⟨t, ht, rfl⟩ := List.mem_map.mp h
    rw [dval_at f v ts t ht nd, decide_eq_true h]
    rfl
  · rw [dval_none f v ts z h, decide_eq_false h]
    rfl
theorem any_dval (kds : List (κ × D)) (k : κ) : (kds.any fun kv => decide (kv.1 = k)) = (dval kds k).isSome := by
  unfold dval
  induction kds with
  | nil => rfl
  | cons a r ih =>
    rw [List.any_cons, List.find?_cons]
    by_cases q : a.1 = k
    · rw [decide_eq_true q]; rfl
    · rw [decide_eq_false q, Bool.false_or]; exact ih
theorem dput_new {kds : List (κ × D)} {k : κ} (v : D) (e : dval kds k = none) : dput kds k v = kds ++ [(k, v)] := by
  unfold dput
  rw [any_dval, e]
  rfl
theorem dval_put (kds : List (κ × D)) (k j : κ) (v : D) : dval (dput kds k v) j = if j = k then some v else dval kds j := by
  have app : ∀ l : List (κ × D), dval (l ++ [(k, v)]) j = (dval l j).or (if j = k then some v else none) := by
    intro l
    unfold dval
    rw [List.find?_append]
    cases e : l.find? (fun kv => decide (kv.1 = j)) with
    | some x => rfl
    | none =>
      by_cases q : j = k
      · subst q; simp [List.find?_cons]
      · have : ¬ k = j := fun z => q z.symm
        simp [List.find?_cons, this, q]
  unfold dput
  rw [any_dval]
  cases e : dval kds k with
  | none =>
    rw [if_neg (by simp), app]
    by_cases q : j = k
    · subst q; rw [e]; simp
    · rw [if_neg q, if_neg q, Option.or_none]
  | some d =>
    rw [if_pos (by rfl)]
    clear app
    induction kds with
    | nil => cases e
    | cons a r ih =>
      unfold dval at e ih ⊢
      rw [List.map_cons, List.find?_cons, List.find?_cons]
      by_cases qa : a.1 = k
      · by_cases q : j = k
        · subst q; simp [qa]
        · have : ¬ a.1 = j := fun z => q (z.symm.trans qa)
          have h2 : ¬ k = j := fun z => q z.symm
          simp only [qa, if_true, decide_eq_false h2, if_neg q]
          clear ih
          rename_i e0
          have : ∀ l : List (κ × D), (l.map fun kv => if kv.1 = k then (kv.1, v) else kv).find? (fun kv => decide (kv.1 = j)) = l.find? (fun kv => decide (kv.1 = j)) := by
            intro l
            induction l with
            | nil => rfl
            | cons b s ih2 =>
              rw [List.map_cons, List.find?_cons, List.find?_cons]
              by_cases qb : b.1 = k
              · simp only [qb, if_true, decide_eq_false h2]; exact ih2
              · simp only [qb, if_false]
                by_cases qj : b.1 = j
                · rw [decide_eq_true qj]
                · rw [decide_eq_false qj]; exact ih2
          rw [this]
      · rw [List.find?_cons, decide_eq_false qa] at e
        have := ih e
        simp only [qa, if_false]
        by_cases qj : a.1 = j
        · have : ¬ j = k := fun z => qa (qj.trans z)
          rw [decide_eq_true qj, if_neg this]
        · rw [decide_eq_false qj]
          exact this
theorem dput_len (kds : List (κ × D)) (k : κ) (v : D) : (dput kds k v).length ≤ kds.length + 1 := by
  unfold dput
  split
  · rw [List.length_map]; exact Nat.le_succ _
  · rw [List.length_append]; exact Nat.le_refl _
end
section
variable {h : Hs} {x d : D} {kds : List (Key × D)} {C : Addr} {fs : List (Str × D)} {y : D}
theorem lk0 {f : Str} {a : D} {r : List (Str × D)} : List.lookup f ((f, a) :: r) = some a := by simp [List.lookup]
theorem lkS {f g : Str} {a : D} {r : List (Str × D)} {o : Option D} (n : ¬ f = g) (z : List.lookup f r = o) : List.lookup f ((g, a) :: r) = o := by
  have : (f == g) = false := by simpa using n
  rw [List.lookup_cons, this]; exact z
theorem lkN {f : Str} : List.lookup f ([] : List (Str × D)) = none := rfl
theorem x_fldV {K : PySem.W.Frag} {f : Str} {R : D → Prop} (i : InsV h x C fs) (c : Cls K C) (n : NoAttr K C f) (l : fs.lookup f = some y) (q : R y) : ∃ C' fs' y', InsV h x C' fs' ∧ Cls K C' ∧ NoAttr K C' f ∧ fs'.lookup f = some y' ∧ R y' := ⟨C, fs, y, i, c, n, l, q⟩
theorem x_methV {m : Str} {R : Prop} (i : InsV h x C fs) (l : fs.lookup m = none) (q : R) : ∃ fs', InsV h x C fs' ∧ fs'.lookup m = none ∧ R := ⟨fs, i, l, q⟩
theorem x_sfldC {K : PySem.W.Frag} {f : Str} {a : Addr} {R : Hs → Prop} (e : h a = some (.ins C fs)) (c : Cls K C) (n : NoAttr K C f) (l : fs.length < 1000) (q : R (seth h a (.ins C (putFD f y fs)))) :
    ∃ o C' fs', D.ref a = .ref o ∧ h o = some (.ins C' fs') ∧ Cls K C' ∧ NoAttr K C' f ∧ fs'.length < 1000 ∧ R (seth h o (.ins C' (putFD f y fs'))) := ⟨a, C, fs, rfl, e, c, n, l, q⟩
theorem x_inS {z : Str} {R : Option D → Prop} (hv : DkV h x kds) (q : R (dval kds (Sum.inr z))) : ∃ o, DGetD h x (.str z) o ∧ R o := ⟨_, .k (k := Sum.inr z) hv, q⟩
theorem x_inI {i : Int} {R : Option D → Prop} (hv : DkV h x kds) (q : R (dval kds (Sum.inl i))) : ∃ o, DGetD h x (.int i) o ∧ R o := ⟨_, .k (k := Sum.inl i) hv, q⟩
theorem x_getS {z : Str} {R : D → Prop} (hv : DkV h x kds) (e : dval kds (Sum.inr z) = some d) (q : R d) : ∃ d, DGetD h x (.str z) (some d) ∧ R d := ⟨d, by rw [← e]; exact .k (k := Sum.inr z) hv, q⟩
theorem x_getI {i : Int} {R : D → Prop} (hv : DkV h x kds) (e : dval kds (Sum.inl i) = some d) (q : R d) : ∃ d, DGetD h x (.int i) (some d) ∧ R d := ⟨d, by rw [← e]; exact .k (k := Sum.inl i) hv, q⟩
theorem x_putS {a : Addr} {z : Str} {R : Hs → Prop} (e : h a = some (.dK kds)) (l : kds.length ≤ 100000) (q : R (seth h a (.dK (dput kds (Sum.inr z) d)))) : ∃ o h4, D.ref a = .ref o ∧ DPutD h o (.str z) d h4 ∧ R h4 := ⟨a, _, rfl, .k (k := Sum.inr z) e l, q⟩
theorem x_putI {a : Addr} {i : Int} {R : Hs → Prop} (e : h a = some (.dK kds)) (l : kds.length ≤ 100000) (q : R (seth h a (.dK (dput kds (Sum.inl i) d)))) : ∃ o h4, D.ref a = .ref o ∧ DPutD h o (.int i) d h4 ∧ R h4 := ⟨a, _, rfl, .k (k := Sum.inl i) e l, q⟩
theorem x_isK {R : Prop} (hv : DkV h x kds) (q : R) : (∃ kds, DkV h x kds) ∧ R := ⟨⟨kds, hv⟩, q⟩
theorem x_isDV {R : Prop} (hv : DkV h x kds) (q : R) : DV h x ∧ R := ⟨.inl ⟨kds, hv⟩, q⟩
end
theorem putFD_len {f : Str} {v : D} : ∀ {fs : List (Str × D)}, (putFD f v fs).length ≤ fs.length + 1
  | [] => Nat.le_refl _
  | (g, x) :: r => by
    unfold putFD
    split
    · exact Nat.le_succ _
    · exact Nat.succ_le_succ putFD_len
theorem putFD_ne {f g : Str} {v x : D} {r : List (Str × D)} (n : ¬ g = f) : putFD f v ((g, x) :: r) = (g, x) :: putFD f v r := by rw [putFD, if_neg n]
theorem putFD_eq {f : Str} {v x : D} {r : List (Str × D)} : putFD f v ((f, x) :: r) = (f, v) :: r := by rw [putFD, if_pos rfl]
/-! ### a signature -/
def entK (ts : List Trip) : List (Key × D) := ts.map fun t => (Sum.inr t.1, .tup [.str t.2.1, .tup (strsD t.2.2)])
def grpL (L : Str → D) (ts : List Trip) : List (Key × D) := (kindsOf ts).map fun k => (Sum.inr k, L k)
def conL (ts : List Trip) (k : Str) : D := .lst (strsD (consOf ts k))
/-- a signature, as data -/
def sigD (C : Addr) (ts : List Trip) : D := .ins C [("entries", .dK (entK ts)), ("grouped", .dK (grpL (conL ts) ts))]
/-- a signature seen: data, or being made -/
structure SigV (h : Hs) (C : Addr) (x : D) (ts : List Trip) (en gr : D) (L : Str → D) : Prop where
  i : InsV h x C [("entries", en), ("grouped", gr)]
  en : DkV h en (entK ts)
  gr : DkV h gr (grpL L ts)
  vs : ∀ k ∈ kindsOf ts, LsV h (L k) (strsD (consOf ts k))
theorem inr_nodup {l : List Str} (nd : l.Nodup) : (l.map (Sum.inr : Str → Key)).Nodup := by
  rw [List.nodup_iff_pairwise_ne, List.pairwise_map]
  exact (List.nodup_iff_pairwise_ne.mp nd).imp fun n e => n (Sum.inr.inj e)
theorem sigV_of {h : Hs} {C : Addr} {ts : List Trip} : SigV h C (sigD C ts) ts (.dK (entK ts)) (.dK (grpL (conL ts) ts)) (conL ts) :=
  ⟨.f, .f, .f, fun k hk => .f⟩
theorem entK_isSome {ts : List Trip} (nd : (ts.map (·.1)).Nodup) (c : Str) : (dval (entK ts) (Sum.inr c)).isSome = decide (c ∈ ts.map (·.1)) := by
  unfold entK
  have nd2 : (ts.map fun t : Trip => (Sum.inr t.1 : Key)).Nodup := by
    have := inr_nodup nd
    rwa [List.map_map] at this
  rw [dval_isSome (fun t : Trip => (Sum.inr t.1 : Key)) _ ts (Sum.inr c) nd2]
  have : (Sum.inr c : Key) ∈ (ts.map fun t : Trip => (Sum.inr t.1 : Key)) ↔ c ∈ ts.map (·.1) := by
    constructor
    · intro h
      obtain ⟨t, ht, e⟩ := List.mem_map.mp h
      exact List.mem_map.mpr ⟨t, ht, Sum.inr.inj e⟩
    · intro h
      obtain ⟨t, ht, e⟩ := List.mem_map.mp h
      exact List.mem_map.mpr ⟨t, ht, by rw [e]⟩
  simp only [this]
theorem entK_at {ts : List Trip} (nd : (ts.map (·.1)).Nodup) {t : Trip} (ht : t ∈ ts) : dval (entK ts) (Sum.inr t.1) = some (.tup [.str t.2.1, .tup (strsD t.2.2)]) := by
  unfold entK
  have nd2 : (ts.map fun t : Trip => (Sum.inr t.1 : Key)).Nodup := by
    have := inr_nodup nd
    rwa [List.map_map] at this
  exact dval_at (fun t : Trip => (Sum.inr t.1 : Key)) (fun t => .tup [.str t.2.1, .tup (strsD t.2.2)]) ts t ht nd2
theorem entK_none {ts : List Trip} {c : Str} (n : c ∉ ts.map (·.1)) : dval (entK ts) (Sum.inr c) = none :=
  dval_none (fun t : Trip => (Sum.inr t.1 : Key)) _ ts _ fun h => by
    obtain ⟨t, ht, e⟩ := List.mem_map.mp h
    exact n (List.mem_map.mpr ⟨t, ht, Sum.inr.inj e⟩)
/-- where the keys are these -/
theorem dval_keys {κ : Type} [DecidableEq κ] : ∀ {kds : List (κ × D)} {k : κ}, (dval kds k).isSome = decide (k ∈ kds.map (·.1))
  | [], k => by simp [dval]
  | a :: r, k => by
    unfold dval
    rw [List.find?_cons, List.map_cons]
    by_cases q : a.1 = k
    · rw [decide_eq_true q, decide_eq_true (by rw [q]; exact List.mem_cons_self ..)]; rfl
    · rw [decide_eq_false q]
      have : (k ∈ a.1 :: r.map (·.1)) ↔ k ∈ r.map (·.1) := by
        rw [List.mem_cons]
        exact ⟨fun z => z.resolve_left fun e => q e.symm, .inr⟩
      simp only [this]
      exact dval_keys
theorem grpL_keys (L : Str → D) (ts : List Trip) : (grpL L ts).map (·.1) = (kindsOf ts).map (Sum.inr : Str → Key) := by unfold grpL; rw [List.map_map]; rfl
theorem grpL_isSome (L : Str → D) (ts : List Trip) (k : Str) : (dval (grpL L ts) (Sum.inr k)).isSome = decide (k ∈ kindsOf ts) := by
  rw [dval_keys, grpL_keys]
  have : (Sum.inr k : Key) ∈ (kindsOf ts).map (Sum.inr : Str → Key) ↔ k ∈ kindsOf ts := by
    constructor
    · intro h
      obtain ⟨t, ht, e⟩ := List.mem_map.mp h
      exact Sum.inr.inj e ▸ ht
    · exact List.mem_map_of_mem
  simp only [this]
theorem grpL_at (L : Str → D) {ts : List Trip} {k : Str} (hk : k ∈ kindsOf ts) : dval (grpL L ts) (Sum.inr k) = some (L k) :=
  dval_at (fun k : Str => (Sum.inr k : Key)) L (kindsOf ts) k hk (inr_nodup (nodup_kindsOf ts))
theorem grpL_none (L : Str → D) {ts : List Trip} {k : Str} (hk : k ∉ kindsOf ts) : dval (grpL L ts) (Sum.inr k) = none := by
  have := grpL_isSome L ts k
  rw [decide_eq_false hk] at this
  cases e : dval (grpL L ts) (Sum.inr k) with
  | none => rfl
  | some d => rw [e] at this; cases this
end GX

set_option Elab.async false
set_option linter.all false
set_option maxRecDepth 100000
set_option maxHeartbeats 4000000
/-! ### a signature being made: its cells -/
namespace GX
open PySem L2 PySem.Spec
theorem LsV.up {h h1 : Hs} {x : D} {ds : List D} (v : LsV h x ds) (k : ∀ a o, h a = some o → (∀ kds, o ≠ .dK kds) → h1 a = some o) : LsV h1 x ds := by
  rcases v with rfl | ⟨p, rfl, e⟩
  · exact .f
  · exact .c (k p _ e fun _ q => nomatch q)
theorem LsV.new {h : Hs} {x : D} {ds : List D} {p : Addr} {o : DO} (v : LsV h x ds) (n : h p = none) : LsV (seth h p o) x ds := by
  rcases v with rfl | ⟨q, rfl, e⟩
  · exact .f
  · exact .c ((seth_ne (h_ne e n)).trans e)
theorem all_false {α : Type} (l : List α) : ((l.map fun _ => false).any id) = false := by
  rw [List.any_map]
  exact List.any_eq_false.mpr fun _ _ => by simp
/-- the cells of a signature over the others: its own, two dicts, a list for each kind -/
def sigH (h0 : Hs) (C S de dg : Addr) (A : Str → Addr) (ts : List Trip) : Hs := fun b =>
  if b = S then some (.ins C [("entries", .ref de), ("grouped", .ref dg)]) else if b = de then some (.dK (entK ts)) else if b = dg then some (.dK (grpL (fun k => .ref (A k)) ts)) else
    match (kindsOf ts).find? fun k => decide (A k = b) with
    | some k => some (.lst (strsD (consOf ts k)))
    | none => h0 b
structure SigC (h0 : Hs) (S de dg : Addr) (A : Str → Addr) (ts : List Trip) : Prop where
  nS : h0 S = none
  ne : h0 de = none
  ng : h0 dg = none
  d1 : de ≠ S
  d2 : dg ≠ S
  d3 : dg ≠ de
  kA : ∀ k ∈ kindsOf ts, A k ≠ S ∧ A k ≠ de ∧ A k ≠ dg ∧ h0 (A k) = none
  inj : ∀ k ∈ kindsOf ts, ∀ k' ∈ kindsOf ts, A k = A k' → k = k'
section
variable {h0 : Hs} {C S de dg : Addr} {A : Str → Addr} {ts : List Trip}
theorem sigH_S : sigH h0 C S de dg A ts S = some (.ins C [("entries", .ref de), ("grouped", .ref dg)]) := if_pos rfl
theorem sigH_e (c : SigC h0 S de dg A ts) : sigH h0 C S de dg A ts de = some (.dK (entK ts)) := by unfold sigH; rw [if_neg c.d1, if_pos rfl]
theorem sigH_g (c : SigC h0 S de dg A ts) : sigH h0 C S de dg A ts dg = some (.dK (grpL (fun k => .ref (A k)) ts)) := by unfold sigH; rw [if_neg c.d2, if_neg c.d3, if_pos rfl]
theorem find_inj {l : List Str} {k : Str} (hk : k ∈ l) (inj : ∀ j ∈ l, A j = A k → j = k) : l.find? (fun j => decide (A j = A k)) = some k := by
  induction l with
  | nil => cases hk
  | cons a l ih =>
    rw [List.find?_cons]
    by_cases e : A a = A k
    · rw [decide_eq_true e, inj a (List.mem_cons_self ..) e]
    · rw [decide_eq_false e]
      refine ih ((List.mem_cons.mp hk).resolve_left fun z => e (by rw [z])) fun j hj => inj j (List.mem_cons_of_mem _ hj)
theorem sigH_A (c : SigC h0 S de dg A ts) {k : Str} (hk : k ∈ kindsOf ts) : sigH h0 C S de dg A ts (A k) = some (.lst (strsD (consOf ts k))) := by
  obtain ⟨n1, n2, n3, _⟩ := c.kA k hk
  unfold sigH
  rw [if_neg n1, if_neg n2, if_neg n3, find_inj hk fun j hj e => c.inj j hj k hk e]
theorem sigH_out {b : Addr} (n1 : b ≠ S) (n2 : b ≠ de) (n3 : b ≠ dg) (n4 : ∀ k ∈ kindsOf ts, A k ≠ b) : sigH h0 C S de dg A ts b = h0 b := by
  unfold sigH
  rw [if_neg n1, if_neg n2, if_neg n3]
  have : (kindsOf ts).find? (fun k => decide (A k = b)) = none := List.find?_eq_none.mpr fun k hk e => n4 k hk (of_decide_eq_true e)
  rw [this]
theorem sigH_in {b : Addr} (c : SigC h0 S de dg A ts) (e : sigH h0 C S de dg A ts b = none) : h0 b = none ∧ b ≠ S ∧ b ≠ de ∧ b ≠ dg ∧ ∀ k ∈ kindsOf ts, A k ≠ b := by
  have n1 : b ≠ S := fun z => by rw [z, sigH_S] at e; cases e
  have n2 : b ≠ de := fun z => by rw [z, sigH_e c] at e; cases e
  have n3 : b ≠ dg := fun z => by rw [z, sigH_g c] at e; cases e
  have n4 : ∀ k ∈ kindsOf ts, A k ≠ b := fun k hk z => by rw [← z, sigH_A c hk] at e; cases e
  rw [sigH_out n1 n2 n3 n4] at e
  exact ⟨e, n1, n2, n3, n4⟩
theorem sigH_old {b : Addr} {o : DO} (c : SigC h0 S de dg A ts) (e : h0 b = some o) : sigH h0 C S de dg A ts b = some o := by
  rw [sigH_out, e]
  · exact fun z => by rw [z, c.nS] at e; cases e
  · exact fun z => by rw [z, c.ne] at e; cases e
  · exact fun z => by rw [z, c.ng] at e; cases e
  · exact fun k hk z => by rw [← z, (c.kA k hk).2.2.2] at e; cases e
theorem sigV_cell (c : SigC h0 S de dg A ts) : SigV (sigH h0 C S de dg A ts) C (.ref S) ts (.ref de) (.ref dg) (fun k => .ref (A k)) :=
  ⟨.c sigH_S, .c (sigH_e c), .c (sigH_g c), fun k hk => .c (sigH_A c hk)⟩
theorem sigH_start (nS : h0 S = none) (ne : h0 de = none) (ng : h0 dg = none) (d1 : de ≠ S) (d2 : dg ≠ S) (d3 : dg ≠ de) : SigC h0 S de dg (fun _ => 0) [] ∧
    seth (seth (seth (seth (seth h0 S (.ins C [])) de (.dK [])) S (.ins C (putFD "entries" (.ref de) []))) dg (.dK [])) S (.ins C (putFD "grouped" (.ref dg) (putFD "entries" (.ref de) []))) = sigH h0 C S de dg (fun _ => 0) [] := by
  have c : SigC h0 S de dg (fun _ => 0) [] := ⟨nS, ne, ng, d1, d2, d3, (fun _ h => nomatch h), (fun _ h => nomatch h)⟩
  refine ⟨c, ?_⟩
  have ep : putFD "grouped" (.ref dg) (putFD "entries" (.ref de) []) = ([("entries", .ref de), ("grouped", .ref dg)] : List (Str × D)) := by
    show putFD "grouped" (.ref dg) [("entries", .ref de)] = _
    rw [putFD_ne (by decide +kernel)]
    rfl
  rw [ep]
  funext b
  unfold sigH
  by_cases b1 : b = S
  · rw [if_pos b1, b1, seth_same]
  · rw [if_neg b1, seth_ne b1]
    by_cases b2 : b = de
    · rw [if_pos b2, b2, seth_ne d3.symm, seth_ne d1, seth_same]
      rfl
    · rw [if_neg b2]
      by_cases b3 : b = dg
      · rw [if_pos b3, b3, seth_same]
        rfl
      · rw [if_neg b3, seth_ne b3, seth_ne b1, seth_ne b2, seth_ne b1]
        rfl
/-- one more constructor of a kind that is there -/
theorem sigH_old_kind (c : SigC h0 S de dg A ts) {t : Trip} (nin : t.1 ∉ ts.map (·.1)) (hk : t.2.1 ∈ kindsOf ts) :
    seth (seth (sigH h0 C S de dg A ts) de (.dK (dput (entK ts) (Sum.inr t.1) (.tup [.str t.2.1, .tup (strsD t.2.2)])))) (A t.2.1) (.lst (strsD (consOf ts t.2.1) ++ [.str t.1])) = sigH h0 C S de dg A (ts ++ [t]) ∧
      SigC h0 S de dg A (ts ++ [t]) := by
  have ek : kindsOf (ts ++ [t]) = kindsOf ts := by rw [kindsOf_app]; unfold addKind; rw [if_pos hk]
  have ee : dput (entK ts) (Sum.inr t.1) (.tup [.str t.2.1, .tup (strsD t.2.2)]) = entK (ts ++ [t]) := by
    rw [dput_new _ (entK_none nin)]
    unfold entK
    rw [List.map_append]
    rfl
  have eg : grpL (fun k => .ref (A k)) (ts ++ [t]) = grpL (fun k => .ref (A k)) ts := by unfold grpL; rw [ek]
  have c' : SigC h0 S de dg A (ts ++ [t]) := ⟨c.nS, c.ne, c.ng, c.d1, c.d2, c.d3, by rw [ek]; exact c.kA, by rw [ek]; exact c.inj⟩
  obtain ⟨m1, m2, m3, m4⟩ := c.kA _ hk
  refine ⟨?_, c'⟩
  rw [ee]
  funext b
  by_cases b1 : b = A t.2.1
  · subst b1
    have := sigH_A (C := C) c' (k := t.2.1) (by rw [ek]; exact hk)
    rw [seth_same, this, consOf_app, if_pos rfl]
    show _ = some (DO.lst ((consOf ts t.2.1 ++ [t.1]).map D.str))
    rw [List.map_append]
    rfl
  · rw [seth_ne b1]
    by_cases b2 : b = de
    · subst b2
      rw [seth_same, sigH_e c']
    · rw [seth_ne b2]
      unfold sigH
      rw [if_neg b2, if_neg b2, eg, ek]
      by_cases b3 : b = S
      · rw [if_pos b3, if_pos b3]
      · rw [if_neg b3, if_neg b3]
        by_cases b4 : b = dg
        · rw [if_pos b4, if_pos b4]
        · rw [if_neg b4, if_neg b4]
          cases q : (kindsOf ts).find? (fun k => decide (A k = b)) with
          | none => rfl
          | some k =>
            have hkb : A k = b := by simpa using List.find?_some q
            have ne : ¬ t.2.1 = k := fun z => b1 (by rw [z]; exact hkb.symm)
            show some (DO.lst (strsD (consOf ts k))) = some (DO.lst (strsD (consOf (ts ++ [t]) k)))
            rw [consOf_app, if_neg ne]
/-- .. of a new kind -/
theorem sigH_new_kind (c : SigC h0 S de dg A ts) {t : Trip} {p : Addr} (nin : t.1 ∉ ts.map (·.1)) (hk : t.2.1 ∉ kindsOf ts) (np : sigH h0 C S de dg A ts p = none) :
    seth (seth (seth (sigH h0 C S de dg A ts) de (.dK (dput (entK ts) (Sum.inr t.1) (.tup [.str t.2.1, .tup (strsD t.2.2)])))) dg (.dK (dput (grpL (fun k => .ref (A k)) ts) (Sum.inr t.2.1) (.ref p)))) p (.lst [.str t.1]) =
      sigH h0 C S de dg (fun k => if k = t.2.1 then p else A k) (ts ++ [t]) ∧ SigC h0 S de dg (fun k => if k = t.2.1 then p else A k) (ts ++ [t]) := by
  have ek : kindsOf (ts ++ [t]) = kindsOf ts ++ [t.2.1] := by rw [kindsOf_app]; unfold addKind; rw [if_neg hk]
  have ee : dput (entK ts) (Sum.inr t.1) (.tup [.str t.2.1, .tup (strsD t.2.2)]) = entK (ts ++ [t]) := by
    rw [dput_new _ (entK_none nin)]
    unfold entK
    rw [List.map_append]
    rfl
  obtain ⟨p0, p1, p2, p3, p4⟩ := sigH_in c np
  have same : ∀ k ∈ kindsOf ts, (if k = t.2.1 then p else A k) = A k := fun k hk2 => if_neg fun z => hk (by rw [← z]; exact hk2)
  have eg : dput (grpL (fun k => .ref (A k)) ts) (Sum.inr t.2.1) (.ref p) = grpL (fun k => .ref (if k = t.2.1 then p else A k)) (ts ++ [t]) := by
    rw [dput_new _ (grpL_none _ hk)]
    unfold grpL
    rw [ek, List.map_append]
    congr 1
    · refine List.map_congr_left fun k hk2 => ?_
      show ((Sum.inr k : Key), D.ref (A k)) = (Sum.inr k, D.ref (if k = t.2.1 then p else A k))
      rw [same k hk2]
    · simp
  have c' : SigC h0 S de dg (fun k => if k = t.2.1 then p else A k) (ts ++ [t]) := by
    refine ⟨c.nS, c.ne, c.ng, c.d1, c.d2, c.d3, fun k hk2 => ?_, fun k hk2 k' hk3 e => ?_⟩
    · rw [ek] at hk2
      rcases List.mem_append.mp hk2 with q | q
      · show (if k = t.2.1 then p else A k) ≠ S ∧ _
        rw [same k q]
        exact c.kA k q
      · rw [List.mem_singleton.mp q, if_pos rfl]
        exact ⟨p1, p2, p3, p0⟩
    · have e : (if k = t.2.1 then p else A k) = (if k' = t.2.1 then p else A k') := e
      rw [ek] at hk2 hk3
      rcases List.mem_append.mp hk2 with q | q <;> rcases List.mem_append.mp hk3 with q' | q'
      · rw [same k q, same k' q'] at e
        exact c.inj k q k' q' e
      · rw [same k q, List.mem_singleton.mp q', if_pos rfl] at e
        exact absurd e (p4 k q)
      · rw [same k' q', List.mem_singleton.mp q, if_pos rfl] at e
        exact absurd e.symm (p4 k' q')
      · rw [List.mem_singleton.mp q, List.mem_singleton.mp q']
  refine ⟨?_, c'⟩
  rw [ee, eg]
  funext b
  by_cases b1 : b = p
  · subst b1
    have := sigH_A (C := C) c' (k := t.2.1) (by rw [ek]; exact List.mem_append_right _ (List.mem_singleton.mpr rfl))
    rw [if_pos rfl] at this
    rw [seth_same, this, consOf_app, if_pos rfl, consOf_none hk]
    rfl
  · rw [seth_ne b1]
    by_cases b4 : b = dg
    · subst b4
      rw [seth_same, sigH_g c']
    · rw [seth_ne b4]
      by_cases b2 : b = de
      · subst b2
        rw [seth_same, sigH_e c']
      · rw [seth_ne b2]
        unfold sigH
        rw [if_neg b2, if_neg b2, if_neg b4, if_neg b4]
        by_cases b3 : b = S
        · rw [if_pos b3, if_pos b3]
        · rw [if_neg b3, if_neg b3, ek, List.find?_append]
          have f1 : (kindsOf ts).find? (fun k => decide ((if k = t.2.1 then p else A k) = b)) = (kindsOf ts).find? (fun k => decide (A k = b)) := by
            have key : ∀ l : List Str, (∀ k ∈ l, k ∈ kindsOf ts) → l.find? (fun k => decide ((if k = t.2.1 then p else A k) = b)) = l.find? (fun k => decide (A k = b)) := by
              intro l
              induction l with
              | nil => intro _; rfl
              | cons a l ih =>
                intro hl
                rw [List.find?_cons, List.find?_cons, same a (hl a (List.mem_cons_self ..)), ih fun k q => hl k (List.mem_cons_of_mem _ q)]
            exact key _ fun _ q => q
          rw [f1]
          cases q : (kindsOf ts).find? (fun k => decide (A k = b)) with
          | none =>
            have : ¬ p = b := fun z => b1 z.symm
            simp [this]
          | some k =>
            have hkm := List.mem_of_find?_eq_some q
            have ne : ¬ t.2.1 = k := fun z => hk (z ▸ hkm)
            show some (DO.lst (strsD (consOf ts k))) = some (DO.lst (strsD (consOf (ts ++ [t]) k)))
            rw [consOf_app, if_neg ne]
def delAll (h : Hs) (as : List Addr) : Hs := fun b => if b ∈ as then none else h b
theorem frz_refs (cs : Str → List D) : ∀ (l : List Str) (h : Hs), l.Nodup → (∀ k ∈ l, ∀ k' ∈ l, A k = A k' → k = k') → (∀ k ∈ l, h (A k) = some (.lst (cs k))) →
    FrzA h (l.map fun k => .ref (A k)) (l.map fun k => .lst (cs k)) (delAll h (l.map A))
  | [], h, _, _, _ => by
    have : delAll h ([].map A) = h := funext fun b => by unfold delAll; rw [if_neg (by simp)]
    rw [this]
    exact .id
  | k :: l, h, nd, inj, e => by
    rw [List.nodup_cons] at nd
    have hk := e k (List.mem_cons_self ..)
    have ne : ∀ j ∈ l, A j ≠ A k := fun j hj q => nd.1 (by rw [← inj j (List.mem_cons_of_mem _ hj) k (List.mem_cons_self ..) q]; exact hj)
    have ih := frz_refs cs l (delh h (A k)) nd.2 (fun a ha b hb => inj a (List.mem_cons_of_mem _ ha) b (List.mem_cons_of_mem _ hb)) fun j hj => by
      rw [delh_ne (ne j hj)]
      exact e j (List.mem_cons_of_mem _ hj)
    have eq : delAll (delh h (A k)) (l.map A) = delAll h ((k :: l).map A) := funext fun b => by
      unfold delAll
      rw [List.map_cons]
      by_cases b1 : b = A k
      · rw [if_pos (by rw [b1]; exact List.mem_cons_self .. : b ∈ A k :: l.map A)]
        subst b1
        rw [delh_same, ite_self]
      · rw [delh_ne b1]
        have : (b ∈ A k :: l.map A) ↔ b ∈ l.map A := by
          rw [List.mem_cons]
          exact ⟨fun z => z.resolve_left b1, .inr⟩
        simp only [this]
    rw [eq] at ih
    exact .cons (.lst hk .id) ih
/-- all made: it is data -/
theorem sigH_frz (c : SigC h0 S de dg A ts) : Frz (sigH h0 C S de dg A ts) (.ref S) (sigD C ts) h0 := by
  have e1 : delh (sigH h0 C S de dg A ts) S de = some (.dK (entK ts)) := (delh_ne c.d1).trans (sigH_e c)
  have e2 : delh (delh (sigH h0 C S de dg A ts) S) de dg = some (.dK (grpL (fun k => .ref (A k)) ts)) := (delh_ne c.d3).trans ((delh_ne c.d2).trans (sigH_g c))
  have f := frz_refs (A := A) (fun k => strsD (consOf ts k)) (kindsOf ts) (delh (delh (delh (sigH h0 C S de dg A ts) S) de) dg) (nodup_kindsOf ts) c.inj fun k hk => by
    obtain ⟨n1, n2, n3, _⟩ := c.kA k hk
    rw [delh_ne n3, delh_ne n2, delh_ne n1, sigH_A c hk]
  have eq : delAll (delh (delh (delh (sigH h0 C S de dg A ts) S) de) dg) ((kindsOf ts).map A) = h0 := funext fun b => by
    unfold delAll
    by_cases b4 : b ∈ (kindsOf ts).map A
    · rw [if_pos b4]
      obtain ⟨k, hk, rfl⟩ := List.mem_map.mp b4
      exact (c.kA k hk).2.2.2.symm
    · rw [if_neg b4]
      by_cases b3 : b = dg
      · subst b3; rw [delh_same, c.ng]
      · rw [delh_ne b3]
        by_cases b2 : b = de
        · subst b2; rw [delh_same, c.ne]
        · rw [delh_ne b2]
          by_cases b1 : b = S
          · subst b1; rw [delh_same, c.nS]
          · rw [delh_ne b1]
            exact sigH_out b1 b2 b3 fun k hk z => b4 (List.mem_map.mpr ⟨k, hk, z⟩)
  rw [eq] at f
  refine .ins sigH_S (kes := [("entries", .dK (entK ts)), ("grouped", .dK (grpL (conL ts) ts))]) rfl (.cons (.dK e1 rfl .id) (.cons (.dK e2 ?_ ?_) .id))
  · rw [grpL_keys, grpL_keys]
  · have g1 : (grpL (fun k => D.ref (A k)) ts).map (·.2) = (kindsOf ts).map fun k => D.ref (A k) := by unfold grpL; rw [List.map_map]; rfl
    have g2 : (grpL (conL ts) ts).map (·.2) = (kindsOf ts).map fun k => D.lst (strsD (consOf ts k)) := by unfold grpL; rw [List.map_map]; rfl
    rw [g1, g2]
    exact f
end
end GX

set_option Elab.async false
set_option linter.all false
set_option maxRecDepth 100000
set_option maxHeartbeats 4000000
/-! ### set(l), l a list of ints; sorted of it -/
namespace GX
open PySem L2 PySem.Spec PyProof.Rows
/-- a set just laid, empty -/
abbrev bareSet (w : World) : Obj := { cls := .type "set", dict := none, data := .set #[] 0 (.fresh 0 0 (!w.params.followText "set-order")) }
section
variable {P : Program} {w : World} {A : Around} {E : Value → Shared → Prop} {s : Shared}
set_option maxRecDepth 100000 in
set_option maxHeartbeats 3200000 in
theorem set_of_list {l : Addr} {us : Array Value} (ns : List Int) {Q : Value → Shared → Prop} (calm : A.handled = none) (isl : s.heap.IsList l us) (hv : IntsAre us.toList ns) (room : ns.length + 1 < scanBound)
    (fin : ∀ (g : Heap) (tk c : Nat), SetR w g s.heap.objs.size (fun j => decide (j ∈ ns)) c → c ≤ ns.length → (∀ b o, s.heap.get? b = some o → g.get? b = some o) → Q (.ref s.heap.objs.size) { s with heap := g, toks := tk }) :
    wpAny (model P w) A (call (.type "set") [.ref l]) Q E s := by
  have many : us.size = ns.length := by simpa using IntsAre.length hv
  obtain ⟨k0, r0, way⟩ := F.called_set.mro
  have k1 := F.called_set.made
  have k2 := F.called_set.sub
  refine wpAny_call (codeAny_of_tree ?_)
  show wpAny _ _ (callAny (.type "set") _) _ _ _
  refine wpAny_pure ⟨Code.quiet_builtin _ (by decide +kernel), codeAny_builtin F.entry_type_call ?_⟩
  rw [Around.under_plain (weight_type_call_type "set" [.ref l] []) rfl]
  have k3 := F.called_set.notType
  have k4 := F.called_set.canCreate
  have k5 := F.typeCall_set_1 (.ref l)
  repeat (any_goals (first | assumption | wp_step))
  refine codeAny_mono (code_set_led1 (.ref l) (E := E) (Q₁ := fun v z => v = .ref s.heap.objs.size ∧ z = { s with heap := s.heap.push (bareSet w) }) ⟨rfl, rfl⟩) fun r z hr => ?_
  cases r with
  | error e => exact hr
  | ok fl =>
    cases fl with
    | ret v =>
      obtain ⟨rfl, rfl⟩ := hr
      have spot : (s.heap.push (bareSet w)).get? s.heap.objs.size = some (bareSet w) := Heap.get?_push_size _ rfl
      have hT : Shared.TypeIs { s with heap := s.heap.push (bareSet w) } (.ref s.heap.objs.size) "set" := ⟨_, spot, rfl⟩
      have k6 := F.called_set.init.lookup
      have k7 := F.called_set.init.bind (.ref s.heap.objs.size)
      repeat (any_goals (first | assumption | wp_step))
      refine codeAny_mono (codeAny_call_builtin (R := wants (fun r z => r = .none ∧ ∃ g tk c, z = { s with heap := g, toks := tk } ∧ SetR w g s.heap.objs.size (fun j => decide (j ∈ ns)) c ∧ c ≤ ns.length ∧
          (∀ b o, s.heap.get? b = some o → g.get? b = some o)) E) F.called_set.init.plain F.entry_set_init (check_set_init_1 hT ?_)) fun r z hz => ?_
      · obtain ⟨ol, el, cl, nl, dl⟩ := isl
        obtain ⟨c0, d0, a0, t0⟩ := ol
        simp only at cl dl
        subst cl; subst dl
        have el2 : (s.heap.push (bareSet w)).get? l = some { cls := .type "list", dict := d0, data := .seq us nl, slots := t0 } := Heap.get?_push_of_some _ el
        have n1 := F.sub_list_set
        have n2 := F.sub_list_frozenset
        have n3 : (Value.type "list" == Value.type "dict") = false := by decide
        have isl2 : (s.heap.push (bareSet w)).IsList l us := ⟨_, el2, rfl, nl, rfl⟩
        unfold Builtin.«set.__init__» noKeywords Builtin.Frozenset.updateFrom
        generalize hPI : pyIter = PI
        wp_walk
        subst hPI
        have sz1 : (s.heap.push (bareSet w)).objs.size = s.heap.objs.size + 1 := Heap.size_push ..
        have below : l < s.heap.objs.size := Heap.lt_size el
        have apart : l ≠ (s.heap.push (bareSet w)).objs.size := by rw [sz1]; exact Nat.ne_of_lt (Nat.lt_succ_of_lt below)
        have off : s.heap.objs.size ∉ [(s.heap.push (bareSet w)).objs.size, l] := by
          intro hm
          rcases List.mem_cons.mp hm with q | q
          · rw [sz1] at q
            exact absurd q (Nat.ne_of_lt (Nat.lt_succ_self _))
          · exact absurd (List.mem_singleton.mp q) (Nat.ne_of_gt below)
        refine wpAny_pyIter_list isl2 (wpAny_bind (wpAny_runValue ?_))
        have calm3 : A.in1.in1.in1.handled = none := by simp [calm]
        have each : ∀ (i : Nat) (v : Value), us[i]? = some v → ∃ k t, ns[i]? = some k ∧ v = .int k t := fun i v hi => by
          have lt : i < ns.length := by
            rw [← many]
            exact (Array.getElem?_eq_some_iff.mp hi).1
          obtain ⟨t, et⟩ := PyProof.Rows.IntsAre.int_at hv i v (by rw [Array.getElem?_toList]; exact hi)
          have ek : ns[i]? = some ns[i] := List.getElem?_eq_getElem lt
          refine ⟨ns[i], t, ek, ?_⟩
          rw [et, List.getD_eq_getElem?_getD, ek]
          rfl
        have run := fun {R : Result → Shared → Prop} => set_update_ints (R := R) (P := P) (w := w) (A := A.in1.in1) ((Walks.list calm3 _ l apart us).toS) s.heap.objs.size off ns many room each
        refine run (us.size - 0) 0 _ (by omega) (Nat.zero_le _) ⟨⟨_, Heap.get?_push_size _ rfl, rfl, rfl⟩, isl2.push _⟩ ⟨0, Nat.le_refl 0, setR_new_at (Heap.get?_push_of_some _ spot)⟩ ?_
        intro z c moved few isset
        obtain ⟨g, g2, d2, tk, os2⟩ := z
        obtain rfl : g2 = s.gens := moved.gens
        obtain rfl : d2 = s.drawn := moved.drawn
        obtain rfl : os2 = s.os := moved.os
        show wpAny _ _ _ _ _ _
        refine wpAny_pure ?_
        show wpAny _ _ (ret Value.none) _ _ _
        rw [many] at few
        refine wpAny_pure ⟨rfl, g, tk, c, rfl, isset, few, fun b o eb => ?_⟩
        have lt : b < s.heap.objs.size := Heap.lt_size eb
        refine moved.heap b o (fun hm => ?_) (Heap.get?_push_of_some _ (Heap.get?_push_of_some _ eb))
        rcases List.mem_cons.mp hm with q | q
        · exact absurd q (Nat.ne_of_lt lt)
        · exact absurd (List.mem_singleton.mp q) (Nat.ne_of_lt (by rw [sz1]; exact Nat.lt_succ_of_lt lt))
      · cases r with
        | error e => exact hz
        | ok fl2 =>
          cases fl2 with
          | ret v2 =>
            obtain ⟨rfl, g, tk, c, rfl, isset, few, kept⟩ := hz
            repeat (any_goals (first | assumption | wp_step))
            exact fin _ _ _ isset few kept
          | _ => exact hz.elim
    | _ => exact hr.elim
end
section
variable {X : Cx} {K : PySem.W.Frag}
/-- set(l): a set of ints -/
def rSetL (K : PySem.W.Frag) (w : World) : List V → Hp → VK → Prop := fun xs H Q => ∃ (a : Addr) (ns : List Int), xs = [V.ref a] ∧ SqL K H a (ns.map V.int) ∧ ns.length ≤ 60 ∧
  ∀ p c, H p = none → c ≤ ns.length → Q (.ref p) (upd H p (SetO w p (fun j => decide (j ∈ ns)) c))
theorem call_setL (hK : X.K = K) (hc : X.calm = true) : CallR X (.type "set") (rSetL K X.w) := by
  subst hK
  rintro pins z σ G xs us Q I r ⟨a, ns, rfl, sq, few, q⟩
  obtain ⟨u, rfl, ru⟩ := vals1 r
  cases ru
  obtain ⟨its, rv, pl, _⟩ := I.list sq
  have hi : IntsAre its ns := ints_of_vals rv
  refine set_of_list ns (I.ok.hd hc) pl.isList (by simpa using hi) (Nat.lt_of_le_of_lt (Nat.succ_le_succ few) (by decide)) fun g tk c isset le kept => ?_
  refine ⟨.ref z.heap.objs.size, _, I.laid kept (Nat.le_refl _) (setO_new isset), rfl, q _ c (I.hok.fresh (Nat.le_refl _)) le⟩
end
section
variable {ρ : Rho} {h : Hs} {Q : QD} {K : PySem.W.Frag} {w : World} {te : TE}
/-- sorted(set(l)) -/
theorem d_sortedSet (z : dE te ρ h fun x h1 => ∃ ns : List Int, LsV h1 x (ns.map .int) ∧ ns.length ≤ 60 ∧ ∀ ms : List Int, ms.Pairwise (· < ·) → (∀ k, k ∈ ms ↔ k ∈ ns) → Fresh (ms.map .int) h1 Q) :
    dE (tCB (rSortedSet w) (tCons (tCB (rSetL K w) (tCons te tNil)) tNil)) ρ h Q := fun σ H Q' rl p =>
  z σ H _ rl fun x h1 v H1 ⟨ns, hv, few, q⟩ dx rh s => by
    obtain ⟨a, vs, rfl, e1, a1⟩ := hv.at rh dx
    have := a1.ints_inv
    subst this
    refine ⟨a, ns, rfl, .of e1, few, fun b c nb le => ⟨b, _, c, rfl, upd_same, by omega, fun ms l pw mem len nl => ?_⟩⟩
    obtain ⟨r1, s1⟩ := rh.newF (o := SetO w b (fun j => decide (j ∈ ns)) c) nb
    exact (q ms pw fun k => by rw [mem]; simp).post (p.step (s.trans s1)) r1 nl (DxA.ints ms)
end
end GX

set_option Elab.async false
set_option linter.all false
set_option maxRecDepth 100000
set_option maxHeartbeats 4000000
/-! ### steps, over data -/
namespace GX
open PySem L2 PySem.Spec
abbrev natD (n : Nat) : D := .int (n : Int)
abbrev stD (s : GStep) : D := .tup [.str s.1, .tup (s.2.map natD)]
/-- a step passed: tuple or list, its indexes so too -/
def StV (y : D) (s : GStep) : Prop := ∃ zi, (y = .tup [.str s.1, zi] ∨ y = .lst [.str s.1, zi]) ∧ (zi = .tup (s.2.map natD) ∨ zi = .lst (s.2.map natD))
theorem natD_ints (l : List Nat) : l.map natD = (l.map fun n : Nat => (n : Int)).map .int := by rw [List.map_map]; rfl
/-- the tree of a step, with fuel -/
def trF (ss : List GStep) : Nat → Nat → D
  | 0, _ => .non
  | d + 1, i => match ss[i]? with
    | none => .non
    | some s => .tup (.str s.1 :: s.2.map (trF ss d))
theorem seth_two {h : Hs} {a b : Addr} {o u o' u' : DO} (n : a ≠ b) : seth (seth (seth (seth h a o) b u) a o') b u' = seth (seth h a o') b u' := by
  rw [seth_comm n.symm (o := u) (u := o'), seth_seth, seth_seth]
theorem strsD_at {zs : List Str} {i : Nat} {z : Str} (e : zs[i]? = some z) : (strsD zs)[i]? = some (.str z) := by rw [List.getElem?_map, e]; rfl
theorem natsD_at {zs : List Nat} {i : Nat} {z : Nat} (e : zs[i]? = some z) : (zs.map natD)[i]? = some (natD z) := by rw [List.getElem?_map, e]; rfl
end GX

set_option Elab.async false
set_option linter.all false
set_option maxRecDepth 100000
set_option maxHeartbeats 4000000
/-! ### max with a default, a dict of one pair, sorted keys, dict comprehensions -/
namespace GX
open PySem L2 PySem.Spec PyProof.Rows
def rMaxDef (K : PySem.W.Frag) : List V → List V → Hp → VK → Prop := fun xs zs H Q => ∃ (a : Addr) (ns : List Int) (d : Int), xs = [V.ref a] ∧ zs = [V.int d] ∧ SqL K H a (ns.map V.int) ∧
  (ns = [] → Q (.int d) H) ∧ ∀ m, m ∈ ns → (∀ k, k ∈ ns → k ≤ m) → Q (.int m) H
theorem foldl_max_mem : ∀ (ns : List Int) (n : Int), (ns.foldl max n = n ∨ ns.foldl max n ∈ ns) ∧ n ≤ ns.foldl max n ∧ ∀ k ∈ ns, k ≤ ns.foldl max n
  | [], n => ⟨.inl rfl, Int.le_refl _, fun k h => nomatch h⟩
  | a :: ns, n => by
    obtain ⟨h1, h2, h3⟩ := foldl_max_mem ns (max n a)
    rw [List.foldl_cons]
    refine ⟨?_, by omega, fun k hk => ?_⟩
    · rcases h1 with h | h
      · rw [h]
        by_cases q : n ≤ a
        · exact .inr (by rw [Int.max_eq_right q]; exact List.mem_cons_self ..)
        · exact .inl (Int.max_eq_left (by omega))
      · exact .inr (List.mem_cons_of_mem _ h)
    · rcases List.mem_cons.mp hk with h | h
      · subst h; omega
      · exact h3 k h
theorem depthAll_ints (ns : List Int) : PyData.depthAll (ns.map .int) ≤ 1 := by
  induction ns with
  | nil => exact Nat.zero_le _
  | cons n ns ih =>
    rw [List.map_cons, PyData.depthAll, PyData.depth]
    omega
section
variable {X : Cx} {K : PySem.W.Frag}
theorem cr_maxDef (hK : X.K = K) (hc : X.calm = true) (hu : X.A.units + 65 < cLine) : CallRK X (.builtin "max") [Str.ofString "default"] (rMaxDef K) := by
  subst hK
  intro pins s σ H xs zs us ws Q I r rz ⟨a, ns, d, ex, ez, sq, q0, q1⟩
  subst ex
  subst ez
  obtain rfl := Vals.ref1 r
  obtain ⟨w1, rfl, e1⟩ := vals1 rz
  obtain ⟨its, rv, pl, _⟩ := I.list sq
  have hi : IntsAre its ns := rv.ints
  have hd := depthAll_ints ns
  show wpAny _ _ (call (.builtin "max") [.ref a] [(Str.ofString "default", w1)]) _ _ _
  refine PySem.W.max_list_default (I.ok.hd hc) pl.isList (ints_readAll _ hi) ⟨?_, ?_⟩ (by omega) ?_ ?_
  · intro x hx y hy
    obtain ⟨i, _, rfl⟩ := List.mem_map.mp hx
    obtain ⟨j, _, rfl⟩ := List.mem_map.mp hy
    rfl
  · intro x hx
    obtain ⟨i, _, rfl⟩ := List.mem_map.mp hx
    exact fun h => nomatch h
  · intro e0 h' tk hk
    exact ⟨.int d, H, I.kept hk, e1, q0 (List.map_eq_nil_iff.mp e0)⟩
  · intro y ys i v h' tk bs e0 ev rd hk
    cases ns with
    | nil => cases e0
    | cons n ns =>
      obtain ⟨rfl, rfl⟩ := List.cons.inj e0
      rw [PySem.W.maxD_ints] at rd
      obtain ⟨t, rfl, _⟩ := reads_int_inv rd
      obtain ⟨h1, h2, h3⟩ := foldl_max_mem ns n
      refine ⟨.int _, H, I.kept hk, ⟨_, rfl⟩, q1 _ ?_ ?_⟩
      · rcases h1 with h | h
        · rw [h]; exact List.mem_cons_self ..
        · exact List.mem_cons_of_mem _ h
      · intro k hk2
        rcases List.mem_cons.mp hk2 with h | h
        · subst h; exact h2
        · exact h3 k h
def rSortedDI : List V → Hp → VK → Prop := fun xs H Q => ∃ (a : Addr) (kvs : List (Key × V)) (ks : List Int), xs = [.ref a] ∧ Rd H a (.dK kvs) ∧ kvs.map (·.1) = ks.map Sum.inl ∧ ks.length < 64 ∧
    ∀ (ys : List Int) (p : Addr), ys.Perm ks → ys.Pairwise (· ≤ ·) → H p = none → Q (.ref p) (upd H p (.lst (ys.map V.int)))
theorem call_sortedDI' (hcalm : X.calm = true) : CallR X (.builtin "sorted") rSortedDI := call_sortedDI hcalm
end
section
variable {ρ : Rho} {h : Hs} {Q : QD} {K : PySem.W.Frag} {x : D} {tk tv : TE} {a b : TA}
theorem d_CKw {r : List V → List V → Hp → VK → Prop} (z : dA a ρ h fun xs h1 => dA b ρ h1 fun ys h2 => ∀ vs ws H Q', RelH h2 H → DxA (Fz h2 H) vs xs → DxA (Fz h2 H) ws ys → Post h2 H Q Q' → r vs ws H Q') : dE (tCKw r a b) ρ h Q := fun σ H Q' rl p =>
  z σ H _ rl fun xs h1 vs H1 q dx rh s => q σ H1 _ (rl.step rh s) fun ys h2 ws H2 q2 dy rh2 s2 => q2 vs ws H2 Q' rh2 (dx.mono s2) dy (p.step (s.trans s2))
theorem v_maxDef {ns : List Int} {d : Int} (hv : LsV h x (ns.map .int)) (q0 : ns = [] → Q (.int d) h) (q1 : ∀ m, m ∈ ns → (∀ k, k ∈ ns → k ≤ m) → Q (.int m) h) :
    ∀ vs ws H Q', RelH h H → DxA (Fz h H) vs [x] → DxA (Fz h H) ws [.int d] → Post h H Q Q' → rMaxDef K vs ws H Q' := by
  intro vs ws H Q' rh dx dy p
  cases dx with
  | cons d1 d2 =>
    cases d2
    cases dy with
    | cons e1 e2 =>
      cases e2
      cases e1
      obtain ⟨b, vs, rfl, e1, a1⟩ := hv.at rh d1
      have := a1.ints_inv
      subst this
      exact ⟨b, ns, d, rfl, rfl, .of e1, fun e => post_id p rh (.int _) (q0 e), fun m hm hk => post_id p rh (.int _) (q1 m hm hk)⟩
theorem v_sortedD {kds : List (Key × D)} {ks : List Int} (hv : DkV h x kds) (ek : kds.map (·.1) = ks.map Sum.inl) (few : ks.length < 64) (q : ∀ ms : List Int, ms.Perm ks → ms.Pairwise (· ≤ ·) → Fresh (ms.map .int) h Q) : dRA rSortedDI [x] h Q := fun vs H Q' r dx p => by
  cases dx with
  | cons dx dn =>
    cases dn
    obtain ⟨b, kvs, rfl, e1, z⟩ := hv.at r dx
    exact ⟨b, kvs, ks, rfl, e1, z.ks.trans ek, few, fun ms l pm pw nl => (q ms pm pw).post p r nl (DxA.ints ms)⟩
/-- {k: v} -/
theorem d_disp1 (z : ∀ p, h p = none → dE tk ρ (seth h p (.dK [])) fun y h1 => h1 = seth h p (.dK []) ∧ dE tv ρ h1 fun d h2 => h2 = seth h p (.dK []) ∧ ∃ k, y = kD k ∧ Q (.ref p) (seth h p (.dK [(k, d)]))) : dE (tDisp [(tk, tv)]) ρ h Q := fun σ H Q' rl p q nq => by
  obtain ⟨r1, s1⟩ := rl.rh.newC (o := .dK []) (c := .dK []) nq ⟨[], upd_same, rfl, .nil⟩ (fun _ e => nomatch e)
  refine z q (rl.rh.no nq) σ _ _ (rl.step r1 s1) ?_
  rintro y h1 v H1 ⟨rfl, z1⟩ dy rh1 s2
  refine z1 σ H1 _ (rl.step rh1 (s1.trans s2)) ?_
  rintro d h2 w H2 ⟨rfl, k, rfl, z2⟩ dd rh2 s3
  have := dx_key_inv dy
  subst this
  obtain ⟨kvs, e0, ek, _⟩ := rh2.cell q _ seth_same
  have e1 : kvs = [] := List.map_eq_nil_iff.mp ek
  subst e1
  obtain ⟨r3, s4⟩ := rh2.write (o := .dK [(k, w)]) (c := .dK [(k, d)]) seth_same (fun _ e => nomatch e) (fun e => nomatch e) ⟨_, upd_same, rfl, .cons dd .nil⟩ (fun _ e => nomatch e)
  rw [seth_seth] at r3 s4
  exact ⟨e0, [(k, w)], rfl, Nat.le_of_ble_eq_true rfl, p _ _ _ _ z2 (.ref q) r3 (s1.trans (s2.trans (s3.trans s4)))⟩
/-- the turns of a dict comprehension -/
def dDcGo (g : TG) (tk tv : TE) (vs : List Nat) (ρ : Rho) (Q : QD) (ds : List D) (Sd : Hs → Prop) (h : Hs) : Prop :=
  ds.length ≤ 100000 ∧ ∃ Pv : Nat → List (Key × D) → Prop, Pv 0 [] ∧ (∀ p o, h p = none → Sd h → Sd (seth h p o)) ∧ Sd h ∧
    (∀ p i acc x, h p = none → ds[i]? = some x → Pv i acc → acc.length ≤ i → dG vs g x (wipeD ρ vs) (seth h p (.dK acc)) fun ρ1 h1 => h1 = seth h p (.dK acc) ∧
      dE tk ρ1 h1 fun y h3 => h3 = seth h p (.dK acc) ∧ dE tv ρ1 h3 fun d h4 => h4 = seth h p (.dK acc) ∧ ∃ k, y = kD k ∧ Pv (i + 1) (dput acc k d)) ∧
    (∀ acc, acc.length ≤ ds.length → Pv ds.length acc → Q (.dK acc) h)
theorem dput_len7 {κ : Type} [DecidableEq κ] (kds : List (κ × D)) (k : κ) (v : D) : (dput kds k v).length ≤ kds.length + 1 := by
  unfold dput
  split
  · rw [List.length_map]; exact Nat.le_succ _
  · rw [List.length_append]; exact Nat.le_refl _
theorem d_dc {w : TI} {g : TG} {tk tv : TE} {vs : List Nat} (z : dI w ρ h fun ds Sd h1 => dDcGo g tk tv vs ρ Q ds Sd h1) : dE (tDc w g tYes tk tv vs) ρ h Q := fun σ H Q' rl0 p0 => by
  refine z σ H _ rl0 fun ds Sd J h1 H1 q rh1 s01 it D hD => ?_
  have rl1 := rl0.step rh1 s01
  have p1 := p0.step s01
  obtain ⟨hn, Pv, pv0, pS, pG, ps, pd⟩ := q
  obtain ⟨G, Y, wk, hG, hY⟩ := it
  have nD := rh1.no hD
  obtain ⟨r2, s2⟩ := rh1.newC (o := .dK []) (c := .dK []) hD ⟨[], upd_same, rfl, .nil⟩ (fun _ e => nomatch e)
  refine ⟨fun i m H' => m = ds.length - i ∧ i ≤ ds.length ∧ ∃ dac, Pv i dac ∧ dac.length ≤ i ∧ RelH (seth h1 D (.dK dac)) H' ∧ Sm h1 H1 (seth h1 D (.dK dac)) H', ⟨_, rfl, Nat.zero_le _, [], pv0, Nat.le_refl _, r2, s2⟩, ?_⟩
  rintro i m H' ⟨rfl, hi, dac, pv, dl, r, s⟩
  have g1 : G H' := hG _ H' r ⟨pS D _ nD pG, s⟩
  by_cases hlt : i < ds.length
  · refine .inr ⟨wk.goes i H' hlt g1, fun H' => ∃ dac, Pv (i + 1) dac ∧ dac.length ≤ i + 1 ∧ RelH (seth h1 D (.dK dac)) H' ∧ Sm h1 H1 (seth h1 D (.dK dac)) H', fun H' q => ⟨_, by omega, rfl, hlt, q⟩, fun x H2 y => ?_⟩
    obtain ⟨d, ed, dx, r3, s3⟩ := hY i _ H' x H2 r ⟨pS D _ nD pG, s⟩ (wk.yields i H' x H2 hlt g1 y)
    have q2 := ps D i dac d nD ed pv dl
    refine q2 _ H2 x _ ((rl1.step r3 (s.trans s3)).wipe vs) dx ?_
    rintro ρ4 h4 σ4 H4 ⟨rfl, q4⟩ r4 s4 l4 u4
    refine ⟨wipe_wipe (l4.trans (wipe_length σ vs)) fun i hi => u4 i hi, ?_⟩
    unfold tYes
    dsimp only
    rw [if_pos rfl]
    refine q4 σ4 H4 _ r4 ?_
    rintro y h5 v5 H5 ⟨rfl, q5⟩ dy r5 s5
    refine q5 σ4 H5 _ (r4.step r5 s5) ?_
    rintro e h6 v6 H6 ⟨rfl, k, rfl, q6⟩ de r6 s6
    have := dx_key_inv (dy.mono s6)
    subst this
    obtain ⟨kvs, c1, c2, c3⟩ := r6.cell D _ seth_same
    have zz : KDx (Fz (seth h1 D (.dK dac)) H6) kvs dac := ⟨c2, c3⟩
    have big : (100000 : Nat) < sizeLine := by decide
    have z5 := zz.put (k := k) de
    obtain ⟨r7, s7⟩ := r6.write (o := .dK (putK kvs k v6)) (c := .dK (dput dac k e)) seth_same (fun _ q => nomatch q) (fun q => nomatch q) ⟨_, upd_same, z5.ks, z5.vs⟩ (fun _ q => nomatch q)
    rw [seth_seth] at r7 s7
    refine ⟨kvs, k, rfl, c1, by rw [zz.len]; omega, dput dac k e, q6, Nat.le_trans (dput_len7 ..) (by omega), r7, s.trans (s3.trans (s4.trans (s5.trans (s6.trans s7))))⟩
  · have e : i = ds.length := by omega
    subst e
    refine .inl ⟨wk.stops H' g1, ?_⟩
    have q2 := pd dac dl pv
    obtain ⟨r3, s3, x3⟩ := Frz.ok (.dK seth_same rfl .id) r (.ref D)
    rw [delh_seth nD] at r3 s3 x3
    exact p1 _ _ _ _ q2 x3 r3 (s.trans s3)
end
end GX

set_option Elab.async false
set_option linter.all false
set_option maxRecDepth 100000
set_option maxHeartbeats 4000000
/-! ### the steps that one of them needs -/
namespace GX
open PySem L2 PySem.Spec
/-- what the step `last` needs -/
inductive Need (ss : List GStep) (last : Nat) : Nat → Prop
  | self : Need ss last last
  | part {n i : Nat} {s : GStep} : Need ss last n → ss[n]? = some s → i ∈ s.2 → Need ss last i
/-- .. is in a set that is closed from `at` upwards -/
def NeedUp (ss : List GStep) (last a : Nat) (l : List Nat) : Prop := last ∈ l ∧ (∀ k ∈ l, Need ss last k) ∧ ∀ (n : Nat) (s : GStep), n ∈ l → a ≤ n → ss[n]? = some s → ∀ i ∈ s.2, i ∈ l
theorem NeedUp.start {ss : List GStep} {last : Nat} : NeedUp ss last (last + 1) [last] := by
  refine ⟨List.mem_singleton.mpr rfl, fun k hk => by rw [List.mem_singleton.mp hk]; exact .self, fun n s hn hl => ?_⟩
  rw [List.mem_singleton.mp hn] at hl
  omega
theorem NeedUp.skip {ss : List GStep} {last a : Nat} {l : List Nat} (h : NeedUp ss last (a + 1) l) (n : a ∉ l) : NeedUp ss last a l :=
  ⟨h.1, h.2.1, fun m s hm hl => h.2.2 m s hm (by
    rcases Nat.eq_or_lt_of_le hl with e | e
    · subst e; exact absurd hm n
    · exact e)⟩
theorem NeedUp.add {ss : List GStep} {last a : Nat} {l l' : List Nat} {s : GStep} (h : NeedUp ss last (a + 1) l) (m : a ∈ l) (e : ss[a]? = some s) (lt : ∀ i ∈ s.2, i < a) (hl : ∀ k, k ∈ l' ↔ k ∈ l ∨ k ∈ s.2) : NeedUp ss last a l' := by
  refine ⟨(hl _).mpr (.inl h.1), fun k hk => ?_, fun n s' hn hn2 es i hi => ?_⟩
  · rcases (hl k).mp hk with q | q
    · exact h.2.1 k q
    · exact .part (h.2.1 a m) e q
  · rcases Nat.eq_or_lt_of_le hn2 with q | q
    · subst q
      rw [e] at es
      cases es
      exact (hl i).mpr (.inr hi)
    · rcases (hl n).mp hn with z | z
      · exact (hl i).mpr (.inl (h.2.2 n s' z q es i hi))
      · have := lt n z
        omega
theorem NeedUp.all {ss : List GStep} {last : Nat} {l : List Nat} (h : NeedUp ss last 0 l) (k : Nat) : k ∈ l ↔ Need ss last k := by
  refine ⟨h.2.1 k, fun n => ?_⟩
  induction n with
  | self => exact h.1
  | part _ es hi ih => exact h.2.2 _ _ ih (Nat.zero_le _) es _ hi
theorem Need.le {ss : List GStep} {last k : Nat} (lt : ∀ (n : Nat) (s : GStep), ss[n]? = some s → ∀ i ∈ s.2, i < n) (h : Need ss last k) : k ≤ last := by
  induction h with
  | self => exact Nat.le_refl _
  | part _ es hi ih => exact Nat.le_trans (Nat.le_of_lt (lt _ _ es _ hi)) ih
/-- ascending -/
abbrev Asc (l : List Nat) : Prop := l.Pairwise (· < ·)
theorem asc_eq : ∀ {l m : List Nat}, Asc l → Asc m → (∀ k, k ∈ l ↔ k ∈ m) → l = m
  | [], [], _, _, _ => rfl
  | [], b :: m, _, _, h => absurd ((h b).mpr (List.mem_cons_self ..)) (List.not_mem_nil)
  | a :: l, [], _, _, h => absurd ((h a).mp (List.mem_cons_self ..)) (List.not_mem_nil)
  | a :: l, b :: m, h1, h2, h => by
    have a1 := List.pairwise_cons.mp h1
    have a2 := List.pairwise_cons.mp h2
    have e : a = b := by
      rcases List.mem_cons.mp ((h a).mp (List.mem_cons_self ..)) with q | q
      · exact q
      · rcases List.mem_cons.mp ((h b).mpr (List.mem_cons_self ..)) with z | z
        · exact z.symm
        · have := a2.1 a q
          have := a1.1 b z
          omega
    subst e
    have : l = m := asc_eq a1.2 a2.2 fun k => by
      have hk := h k
      rw [List.mem_cons, List.mem_cons] at hk
      constructor
      · intro q
        rcases hk.mp (.inr q) with z | z
        · subst z
          have := a1.1 k q
          omega
        · exact z
      · intro q
        rcases hk.mpr (.inr q) with z | z
        · subst z
          have := a2.1 k q
          omega
        · exact z
    rw [this]
theorem asc_int {ms : List Int} {l : List Nat} (pw : ms.Pairwise (· < ·)) (h : ∀ k, k ∈ ms ↔ k ∈ l.map fun n : Nat => (n : Int)) : ∃ ns : List Nat, ms = ns.map (fun n : Nat => (n : Int)) ∧ Asc ns ∧ ∀ k, k ∈ ns ↔ k ∈ l := by
  have nn : ∀ k ∈ ms, ((k.toNat : Nat) : Int) = k := fun k hk => by
    obtain ⟨n, _, rfl⟩ := List.mem_map.mp ((h k).mp hk)
    rfl
  have e : ms = (ms.map Int.toNat).map fun n : Nat => (n : Int) := by
    rw [List.map_map]
    refine (List.map_id ms).symm.trans (List.map_congr_left fun k hk => ?_)
    exact (nn k hk).symm
  refine ⟨ms.map Int.toNat, e, ?_, fun k => ?_⟩
  · refine List.pairwise_map.mpr (pw.imp_of_mem fun {a b} ha hb hab => ?_)
    have := nn a ha
    have := nn b hb
    omega
  · constructor
    · intro hk
      obtain ⟨i, hi, rfl⟩ := List.mem_map.mp hk
      obtain ⟨n, hn, e⟩ := List.mem_map.mp ((h i).mp hi)
      subst e
      exact hn
    · intro hk
      exact List.mem_map.mpr ⟨(k : Int), (h k).mpr (List.mem_map_of_mem hk), rfl⟩
/-- the steps ns of ss alone, with new indexes -/
def prunedOf (ss : List GStep) (ns : List Nat) : List GStep := ns.map fun n => ((ss.getD n ("", [])).1, (ss.getD n ("", [])).2.map fun i => ns.idxOf i)
theorem StepsOk.of_get {ts : List Trip} : ∀ {ss : List GStep} {ks : List Str}, ss.length = ks.length → (∀ {n : Nat} {s : GStep}, ss[n]? = some s →
    ∃ t ∈ ts, s.1 = t.1 ∧ s.2.length = t.2.2.length ∧ ks[n]? = some t.2.1 ∧ ∀ (j : Nat) (p : Str), t.2.2[j]? = some p → ∃ i : Nat, s.2[j]? = some i ∧ i < n ∧ ks[i]? = some p) → StepsOk ts ss ks := by
  intro ss
  refine snoc_ind (P := fun ss => ∀ {ks : List Str}, ss.length = ks.length → (∀ {n : Nat} {s : GStep}, ss[n]? = some s →
    ∃ t ∈ ts, s.1 = t.1 ∧ s.2.length = t.2.2.length ∧ ks[n]? = some t.2.1 ∧ ∀ (j : Nat) (p : Str), t.2.2[j]? = some p → ∃ i : Nat, s.2[j]? = some i ∧ i < n ∧ ks[i]? = some p) → StepsOk ts ss ks) ?_ ?_ ss
  · intro ks hl h
    cases ks with
    | nil => exact .nil
    | cons _ _ => cases hl
  · intro ss s ih ks hl h
    rw [List.length_append] at hl
    have hk0 : ks ≠ [] := fun e => by subst e; cases hl
    obtain ⟨ks', k, rfl⟩ : ∃ ks' k, ks = ks' ++ [k] := ⟨ks.dropLast, ks.getLast hk0, (List.dropLast_concat_getLast hk0).symm⟩
    rw [List.length_append] at hl
    have hl2 : ss.length = ks'.length := Nat.add_right_cancel hl
    have h1 := ih (ks := ks') hl2 fun {n u} e => by
      have hn := (List.getElem?_eq_some_iff.mp e).1
      obtain ⟨t, tm, a, b, c, d⟩ := h (n := n) (s := u) (by rw [List.getElem?_append_left hn]; exact e)
      rw [List.getElem?_append_left (by omega)] at c
      refine ⟨t, tm, a, b, c, fun j p hp => ?_⟩
      obtain ⟨i, x, y, z⟩ := d j p hp
      rw [List.getElem?_append_left (by omega)] at z
      exact ⟨i, x, y, z⟩
    obtain ⟨t, tm, a, b, c, d⟩ := h (n := ss.length) (s := s) (by rw [List.getElem?_append_right (Nat.le_refl _), Nat.sub_self]; rfl)
    rw [List.getElem?_append_right (by omega), hl2, Nat.sub_self] at c
    cases c
    have es : s = (t.1, s.2) := by rw [← a]
    rw [es]
    refine .snoc h1 tm b fun j p hp => ?_
    obtain ⟨i, x, y, z⟩ := d j p hp
    rw [List.getElem?_append_left (by omega)] at z
    exact ⟨i, x, z⟩
section
variable {ts : List Trip} {ss : List GStep} {ks : List Str} {last : Nat} {ns : List Nat}
/-- ns: all that `last` needs, ascending -/
structure PrOk (ss : List GStep) (last : Nat) (ns : List Nat) : Prop where
  asc : Asc ns
  all : ∀ k, k ∈ ns ↔ Need ss last k
theorem asc_idx : ∀ {ns : List Nat}, Asc ns → ∀ {i j a b : Nat}, ns[i]? = some a → ns[j]? = some b → a < b → i < j := fun {ns} h {i j a b} ha hb hab => by
  rcases Nat.lt_trichotomy i j with q | q | q
  · exact q
  · subst q
    rw [ha] at hb
    cases hb
    omega
  · have h1 := (List.getElem?_eq_some_iff.mp ha)
    have h2 := (List.getElem?_eq_some_iff.mp hb)
    have := List.pairwise_iff_getElem.mp h j i h2.1 h1.1 q
    rw [h1.2, h2.2] at this
    omega
theorem idx_at {ns : List Nat} {a : Nat} (h : a ∈ ns) : ns[ns.idxOf a]? = some a := by
  rw [List.getElem?_eq_getElem (List.idxOf_lt_length_iff.mpr h)]
  simp
theorem asc_nodup {ns : List Nat} (h : Asc ns) : ns.Nodup := h.imp fun h => Nat.ne_of_lt h
theorem idx_of {ns : List Nat} (h : Asc ns) {i a : Nat} (e : ns[i]? = some a) : ns.idxOf a = i := by
  obtain ⟨hi, rfl⟩ := List.getElem?_eq_some_iff.mp e
  exact (asc_nodup h).idxOf_getElem i hi
theorem prunedOf_len : (prunedOf ss ns).length = ns.length := List.length_map ..
theorem prunedOf_at {i n : Nat} {s : GStep} (e : ns[i]? = some n) (es : ss[n]? = some s) : (prunedOf ss ns)[i]? = some (s.1, s.2.map fun j => ns.idxOf j) := by
  unfold prunedOf
  rw [List.getElem?_map, e]
  dsimp only [Option.map_some]
  rw [List.getD_eq_getElem?_getD, es]
  rfl
theorem PrOk.lt (h : PrOk ss last ns) (ok : StepsOk ts ss ks) (hl : last < ss.length) {n : Nat} (hn : n ∈ ns) : n < ss.length := by
  have := Need.le (fun n s e => ok.lt e) ((h.all n).mp hn)
  omega
theorem PrOk.steps (h : PrOk ss last ns) (ok : StepsOk ts ss ks) (hl : last < ss.length) : StepsOk ts (prunedOf ss ns) (ns.map fun n => ks.getD n "") := by
  refine .of_get (by rw [prunedOf_len, List.length_map]) fun {i u} e => ?_
  have hi := (List.getElem?_eq_some_iff.mp e).1
  rw [prunedOf_len] at hi
  have en := List.getElem?_eq_getElem hi
  have nm : ns[i] ∈ ns := List.getElem_mem hi
  have hn := h.lt ok hl nm
  have es := List.getElem?_eq_getElem hn
  rw [prunedOf_at en es] at e
  cases e
  obtain ⟨t, tm, a, b, c, d⟩ := ok.get es
  refine ⟨t, tm, a, by rw [List.length_map]; exact b, ?_, fun j p hp => ?_⟩
  · rw [List.getElem?_map, en]
    dsimp only [Option.map_some]
    rw [List.getD_eq_getElem?_getD, c]
    rfl
  · obtain ⟨x, x1, x2, x3⟩ := d j p hp
    have xm : x ∈ ns := (h.all x).mpr (.part ((h.all _).mp nm) es (List.mem_of_getElem? x1))
    refine ⟨ns.idxOf x, by rw [List.getElem?_map, x1]; rfl, asc_idx h.asc (idx_at xm) en x2, ?_⟩
    rw [List.getElem?_map, idx_at xm]
    dsimp only [Option.map_some]
    rw [List.getD_eq_getElem?_getD, x3]
    rfl
theorem PrOk.tree (h : PrOk ss last ns) (ok : StepsOk ts ss ks) (hl : last < ss.length) : ∀ (d i n : Nat), ns[i]? = some n → trF (prunedOf ss ns) d i = trF ss d n
  | 0, _, _, _ => rfl
  | d + 1, i, n, e => by
    have nm : n ∈ ns := List.mem_of_getElem? e
    have es := List.getElem?_eq_getElem (h.lt ok hl nm)
    unfold trF
    rw [prunedOf_at e es, es]
    dsimp only
    rw [List.map_map]
    congr 2
    refine List.map_congr_left fun x hx => ?_
    exact h.tree ok hl d _ _ (idx_at ((h.all x).mpr (.part ((h.all _).mp nm) es hx)))
/-- the size of a step's tree -/
theorem sizes_at (ok : StepsOk ts ss ks) : ∀ {n : Nat} {s : GStep}, ss[n]? = some s → (sizesOf ss)[n]? = some (1 + (s.2.map fun i => (sizesOf ss).getD i 0).sum) := by
  induction ok with
  | nil => intro n s e; cases e
  | @snoc ss ks t is ok tm hl hp ih =>
    intro n s e
    have hlen := sizesOf_len ss
    have old : ∀ {n : Nat} {s : GStep}, ss[n]? = some s → (s.2.map fun i => (sizesOf (ss ++ [(t.1, is)])).getD i 0) = s.2.map fun i => (sizesOf ss).getD i 0 := fun {n s} e => by
      refine List.map_congr_left fun i hi => ?_
      have := ok.lt e i hi
      have hn := (List.getElem?_eq_some_iff.mp e).1
      rw [sizesOf_app]
      unfold addSize
      rw [List.getD_eq_getElem?_getD, List.getElem?_append_left (by omega), List.getD_eq_getElem?_getD]
    by_cases hn : n < ss.length
    · rw [List.getElem?_append_left hn] at e
      rw [old e, ← ih e, sizesOf_app]
      unfold addSize
      rw [List.getElem?_append_left (by omega)]
    · have hn2 := (List.getElem?_eq_some_iff.mp e).1
      rw [List.length_append] at hn2
      have hn3 : n = ss.length := by
        have : n < ss.length + 1 := hn2
        omega
      subst hn3
      rw [List.getElem?_append_right (Nat.le_refl _), Nat.sub_self] at e
      cases e
      have inn : (is.map fun i => (sizesOf (ss ++ [(t.1, is)])).getD i 0) = is.map fun i => (sizesOf ss).getD i 0 := by
        refine List.map_congr_left fun i hi => ?_
        obtain ⟨j, hj⟩ := List.getElem?_of_mem hi
        have hj2 := (List.getElem?_eq_some_iff.mp hj).1
        obtain ⟨i', g1, g2⟩ := hp j t.2.2[j] (List.getElem?_eq_getElem (by omega))
        rw [hj] at g1
        cases g1
        have h3 := (List.getElem?_eq_some_iff.mp g2).1
        have h4 := ok.len
        rw [sizesOf_app]
        unfold addSize
        rw [List.getD_eq_getElem?_getD, List.getElem?_append_left (by omega), List.getD_eq_getElem?_getD]
      show _ = some (1 + (is.map fun i => (sizesOf (ss ++ [(t.1, is)])).getD i 0).sum)
      rw [inn, sizesOf_app]
      unfold addSize
      rw [List.getElem?_append_right (by omega), hlen, Nat.sub_self]
      rfl
theorem PrOk.size (h : PrOk ss last ns) (ok : StepsOk ts ss ks) (hl : last < ss.length) : ∀ (n i : Nat), ns[i]? = some n → (sizesOf (prunedOf ss ns))[i]? = (sizesOf ss)[n]? := by
  intro n
  induction n using Nat.strongRecOn with
  | ind n ih =>
    intro i e
    have nm : n ∈ ns := List.mem_of_getElem? e
    have hn := h.lt ok hl nm
    have es := List.getElem?_eq_getElem hn
    rw [sizes_at ok es, sizes_at (h.steps ok hl) (prunedOf_at e es)]
    show some (1 + ((ss[n].2.map fun j => ns.idxOf j).map fun i => (sizesOf (prunedOf ss ns)).getD i 0).sum) = _
    rw [List.map_map]
    congr 3
    refine List.map_congr_left fun x hx => ?_
    have xm : x ∈ ns := (h.all x).mpr (.part ((h.all _).mp nm) es hx)
    show (sizesOf (prunedOf ss ns)).getD (ns.idxOf x) 0 = _
    rw [List.getD_eq_getElem?_getD, List.getD_eq_getElem?_getD, ih x (ok.lt es x hx) _ (idx_at xm)]
/-- `last` stands last -/
theorem PrOk.end (h : PrOk ss last ns) (ok : StepsOk ts ss ks) : ns ≠ [] ∧ ns[ns.length - 1]? = some last := by
  have lm : last ∈ ns := (h.all _).mpr .self
  have hne : ns ≠ [] := fun e => by rw [e] at lm; cases lm
  have hp := List.length_pos_iff.mpr hne
  refine ⟨hne, ?_⟩
  have e0 := List.getElem?_eq_getElem (show ns.length - 1 < ns.length by omega)
  have m0 : ns[ns.length - 1] ∈ ns := List.getElem_mem _
  have le := Need.le (fun n s e => ok.lt e) ((h.all _).mp m0)
  rcases Nat.eq_or_lt_of_le le with q | q
  · rw [e0, q]
  · have := asc_idx h.asc e0 (idx_at lm) q
    have := List.idxOf_lt_length_iff.mpr lm
    omega
theorem PrOk.few (h : PrOk ss last ns) (ok : StepsOk ts ss ks) (hl : last < ss.length) : ns.length ≤ ss.length := by
  have hs : ns ⊆ List.range ss.length := fun n hn => List.mem_range.mpr (h.lt ok hl hn)
  have := (asc_nodup h.asc).length_le_of_subset hs
  rwa [List.length_range] at this
end
end GX

set_option Elab.async false
set_option linter.all false
set_option maxRecDepth 100000
set_option maxHeartbeats 4000000
/-! ### plain data that can be shown and compared -/
namespace GX
open PySem L2 PySem.Spec
structure Fine (d w : Nat) (x : D) : Prop where
  ok : okP x = true
  sh : (toP x).showable = true
  nd : (toP x).hasDict = false
  lay : (toP x).canLay0 = true
  int : (toP x).intsShort 13 = true
  dep : (toP x).depth ≤ d
  wt : (toP x).weight ≤ w
structure FineA (d w : Nat) (xs : List D) : Prop where
  ok : okPs xs = true
  sh : PyData.showableAll (toPs xs) = true
  nd : PyData.hasDictAll (toPs xs) = false
  lay : PyData.canLayAll0 (toPs xs) = true
  int : PyData.intsShortAll 13 (toPs xs) = true
  dep : PyData.depthAll (toPs xs) ≤ d
  wt : PyData.weightAll (toPs xs) ≤ w
section
variable {d w n : Nat} {x : D} {xs : List D}
theorem FineA.nil : FineA d w [] := ⟨rfl, rfl, rfl, rfl, rfl, Nat.zero_le _, Nat.zero_le _⟩
theorem FineA.cons {v : Nat} (h : Fine d v x) (t : FineA d w xs) : FineA d (v + 1 + w) (x :: xs) := by
  obtain ⟨a, b, c, e, f, g, i⟩ := h
  obtain ⟨a2, b2, c2, e2, f2, g2, i2⟩ := t
  refine ⟨?_, ?_, ?_, ?_, ?_, ?_, ?_⟩
  · rw [okPs, a, a2]; rfl
  · rw [toPs, PyData.showableAll, b, b2]; rfl
  · rw [toPs, PyData.hasDictAll, c, c2]; rfl
  · rw [toPs, PyData.canLayAll0, e, e2]; rfl
  · rw [toPs, PyData.intsShortAll, f, f2]; rfl
  · rw [toPs, PyData.depthAll]; exact Nat.max_le.mpr ⟨g, g2⟩
  · rw [toPs, PyData.weightAll]; omega
theorem FineA.all (h : ∀ x ∈ xs, Fine d w x) : FineA d (xs.length * (w + 1)) xs := by
  induction xs with
  | nil => exact .nil
  | cons x xs ih =>
    have := FineA.cons (h x (List.mem_cons_self ..)) (ih fun y hy => h y (List.mem_cons_of_mem _ hy))
    have e : (x :: xs).length * (w + 1) = w + 1 + xs.length * (w + 1) := by rw [List.length_cons, Nat.add_mul]; omega
    rw [e]
    exact this
theorem FineA.lst (h : FineA d w xs) : Fine (d + 1) w (.lst xs) := by
  obtain ⟨a, b, c, e, f, g, i⟩ := h
  refine ⟨?_, ?_, ?_, ?_, ?_, ?_, ?_⟩
  · rw [okP]; exact a
  · rw [toP, PyData.showable]; exact b
  · rw [toP, PyData.hasDict]; exact c
  · rw [toP, PyData.canLay0]; exact e
  · rw [toP, PyData.intsShort]; exact f
  · rw [toP, PyData.depth]; omega
  · rw [toP, PyData.weight]; exact i
theorem FineA.tup (h : FineA d w xs) : Fine (d + 1) w (.tup xs) := by
  obtain ⟨a, b, c, e, f, g, i⟩ := h
  refine ⟨?_, ?_, ?_, ?_, ?_, ?_, ?_⟩
  · rw [okP]; exact a
  · rw [toP, PyData.showable]; exact b
  · rw [toP, PyData.hasDict]; exact c
  · rw [toP, PyData.canLay0]; exact e
  · rw [toP, PyData.intsShort]; exact f
  · rw [toP, PyData.depth]; omega
  · rw [toP, PyData.weight]; exact i
theorem Fine.mono {d' w' : Nat} (h : Fine d w x) (hd : d ≤ d') (hw : w ≤ w') : Fine d' w' x := ⟨h.ok, h.sh, h.nd, h.lay, h.int, Nat.le_trans h.dep hd, Nat.le_trans h.wt hw⟩
theorem FineA.mono {d' w' : Nat} (h : FineA d w xs) (hd : d ≤ d') (hw : w ≤ w') : FineA d' w' xs := ⟨h.ok, h.sh, h.nd, h.lay, h.int, Nat.le_trans h.dep hd, Nat.le_trans h.wt hw⟩
theorem Fine.str {z : Str} (h : PyData.strOk z = true) : Fine 0 z.length (.str z) := ⟨rfl, rfl, rfl, by rw [toP, PyData.canLay0]; exact h, rfl, by rw [toP, PyData.depth]; exact Nat.le_refl _, by rw [toP, PyData.weight]; exact Nat.le_refl _⟩
theorem Fine.bl {z : Bool} : Fine 0 0 (.bl z) := ⟨rfl, rfl, rfl, rfl, rfl, by rw [toP, PyData.depth]; exact Nat.le_refl _, by rw [toP, PyData.weight]; exact Nat.le_refl _⟩
theorem Fine.non : Fine 0 0 .non := ⟨rfl, rfl, rfl, rfl, rfl, by rw [toP, PyData.depth]; exact Nat.le_refl _, by rw [toP, PyData.weight]; exact Nat.le_refl _⟩
theorem Fine.int' {i : Int} (h : -999999999999 < i ∧ i < 999999999999) : Fine 0 40 (.int i) := by
  have hb : i.natAbs < 2 ^ 40 := by
    have : (2 : Nat) ^ 40 = 1099511627776 := by decide
    omega
  have hl : i.natAbs ≠ 0 → i.natAbs.log2 < 40 := fun h0 => (Nat.log2_lt h0).mpr hb
  refine ⟨rfl, ?_, rfl, rfl, ?_, by rw [toP, PyData.depth]; exact Nat.le_refl _, ?_⟩
  · rw [toP, PyData.showable]
    refine decide_eq_true ?_
    by_cases h0 : i.natAbs = 0
    · rw [h0]; decide
    · have := hl h0; omega
  · exact PyProof.Rows.intsShort_of_noneOrIn (lo := -999999999999) (hi := 999999999999) (by decide) (by decide) _ (by
      show (decide _ && decide _) = true
      rw [decide_eq_true h.1, decide_eq_true h.2]; rfl)
  · rw [toP, PyData.weight]
    split
    · omega
    · rename_i h0
      have h1 : i ≠ 0 := fun e => h0 (by rw [e]; rfl)
      have := hl (by omega)
      omega
theorem Fine.nat {n : Nat} (h : n ≤ 1000000) : Fine 0 40 (natD n) := .int' (by omega)
theorem Fine.shOk (h : Fine d w x) (hd : d ≤ 40 := by decide) (hw : w ≤ 1048576 := by decide) : shOk x := by
  refine ⟨h.ok, h.sh, h.nd, Nat.le_trans h.dep hd, ?_⟩
  have h2 := PyData.shown_le 13 (by decide) (toP x) (PyData.leavesShort_of_canLay0 13 _ h.lay h.int)
  have := h.wt
  omega
theorem Fine.cmp (h : Fine d w x) (hd : d ≤ 64 := by decide) : cmpOk x := by
  refine ⟨h.ok, ?_⟩
  unfold SeqAt.shaped
  rw [h.lay, decide_eq_true (Nat.le_trans h.dep hd)]
  rfl
theorem Fine.self (h : Fine d w x) : PyData.eqv (toP x) (toP x) = true := SeqAt.eqv_refl _ h.lay
end
theorem Fine.strs {zs : List Str} {n : Nat} (h : ∀ z ∈ zs, PyData.strOk z = true) (hl : ∀ z ∈ zs, z.length ≤ n) : FineA 0 (zs.length * (n + 1)) (strsD zs) := by
  have := FineA.all (xs := strsD zs) (d := 0) (w := n) fun x hx => by
    obtain ⟨z, hz, rfl⟩ := List.mem_map.mp hx
    exact (Fine.str (h z hz)).mono (Nat.le_refl _) (hl z hz)
  rwa [List.length_map] at this
theorem Fine.nats {zs : List Nat} (h : ∀ z ∈ zs, z ≤ 1000000) : FineA 0 (zs.length * 41) (zs.map natD) := by
  have := FineA.all (xs := zs.map natD) (d := 0) (w := 40) fun x hx => by
    obtain ⟨z, hz, rfl⟩ := List.mem_map.mp hx
    exact Fine.nat (h z hz)
  rwa [List.length_map] at this
theorem isNm_ok {z : Str} (h : isNm z = true) : PyData.strOk z = true := by
  unfold isNm at h
  have h2 := (Bool.and_eq_true_iff.mp h).2
  have a1 : ∀ c ∈ alphabet.cps.toList, c < 0x110000 := by decide +kernel
  unfold PyData.strOk
  rw [← Array.all_toList]
  exact List.all_eq_true.mpr fun c hc => decide_eq_true (a1 c (of_decide_eq_true (List.all_eq_true.mp h2 c hc)))
theorem isNm_len {z : Str} (h : isNm z = true) : z.length ≤ 8 := by
  unfold isNm at h
  have h2 := (Bool.and_eq_true_iff.mp (Bool.and_eq_true_iff.mp h).1).2
  have := of_decide_eq_true h2
  omega
theorem good_parts {ts : List Trip} (g : Good isNm ts) {t : Trip} (h : t ∈ ts) : ∀ z ∈ t.2.2, isNm z = true := fun z hz => by
  obtain ⟨u, hu, e⟩ := (mem_kindsOf _ _).mp (g.known t h z hz)
  rw [← e]
  exact (g.names u hu).2
/-- steps of names -/
structure StFine (ss : List GStep) : Prop where
  nm : ∀ s ∈ ss, isNm s.1 = true
  ix : ∀ s ∈ ss, s.2.length ≤ 3 ∧ ∀ i ∈ s.2, i ≤ 1000000
theorem StepsOk.fine {ts : List Trip} {ss : List GStep} {ks : List Str} (ok : StepsOk ts ss ks) (g : Good isNm ts) (h3 : ∀ t ∈ ts, t.2.2.length ≤ 3) (few : ss.length ≤ 1000) : StFine ss := by
  refine ⟨fun s hs => ?_, fun s hs => ?_⟩
  · obtain ⟨n, hn⟩ := List.getElem?_of_mem hs
    obtain ⟨t, tm, e, _⟩ := ok.get hn
    rw [e]
    exact (g.names t tm).1
  · obtain ⟨n, hn⟩ := List.getElem?_of_mem hs
    have hn2 := (List.getElem?_eq_some_iff.mp hn).1
    obtain ⟨t, tm, _, e, _⟩ := ok.get hn
    refine ⟨by rw [e]; exact h3 t tm, fun i hi => ?_⟩
    have := ok.lt hn i hi
    omega
theorem StFine.st {ss : List GStep} (h : StFine ss) {s : GStep} (hs : s ∈ ss) : Fine 2 200 (stD s) := by
  obtain ⟨h1, h2⟩ := h.ix s hs
  have a : FineA 0 (3 * 41) (s.2.map natD) := (Fine.nats h2).mono (Nat.le_refl _) (Nat.mul_le_mul_right _ h1)
  have b := ((Fine.str (isNm_ok (h.nm s hs))).mono (Nat.zero_le 1) (isNm_len (h.nm s hs)))
  exact (FineA.cons b (FineA.cons (a.tup) (FineA.nil (w := 0)))).tup.mono (by decide) (by decide)
theorem StFine.lst {ss : List GStep} (h : StFine ss) (few : ss.length ≤ 1000) : Fine 3 201000 (.lst (ss.map stD)) := by
  have := FineA.all (xs := ss.map stD) (d := 2) (w := 200) fun x hx => by
    obtain ⟨s, hs, rfl⟩ := List.mem_map.mp hx
    exact h.st hs
  rw [List.length_map] at this
  exact (this.lst).mono (Nat.le_refl _) (by omega)
/-- trees -/
def wtT : Nat → Nat
  | 0 => 0
  | d + 1 => 9 + 3 * (wtT d + 1)
theorem tree_fine {ss : List GStep} (h : StFine ss) : ∀ d i, Fine d (wtT d) (trF ss d i)
  | 0, _ => Fine.non
  | d + 1, i => by
    unfold trF
    cases e : ss[i]? with
    | none => exact Fine.non.mono (Nat.zero_le _) (Nat.zero_le _)
    | some s =>
      have hs := List.mem_of_getElem? e
      have a := FineA.all (xs := s.2.map (trF ss d)) (d := d) (w := wtT d) fun x hx => by
        obtain ⟨j, _, rfl⟩ := List.mem_map.mp hx
        exact tree_fine h d j
      rw [List.length_map] at a
      have b := ((Fine.str (isNm_ok (h.nm s hs))).mono (Nat.zero_le d) (isNm_len (h.nm s hs)))
      refine (FineA.cons b a).tup.mono (Nat.le_refl _) ?_
      have := Nat.mul_le_mul_right (wtT d + 1) (h.ix s hs).1
      show 8 + 1 + _ ≤ 9 + 3 * (wtT d + 1)
      omega
theorem trF_fuel {ss : List GStep} (lt : ∀ (n : Nat) (s : GStep), ss[n]? = some s → ∀ i ∈ s.2, i < n) : ∀ (n d : Nat), n < d → trF ss d n = trF ss (n + 1) n := by
  intro n
  induction n using Nat.strongRecOn with
  | ind n ih =>
    intro d hd
    cases d with
    | zero => cases hd
    | succ d =>
      unfold trF
      cases e : ss[n]? with
      | none => rfl
      | some s =>
        dsimp only
        congr 2
        refine List.map_congr_left fun i hi => ?_
        have hi2 := lt n s e i hi
        rw [ih i hi2 d (by omega), ih i hi2 n hi2]
end GX

set_option Elab.async false
set_option linter.all false
set_option maxRecDepth 100000
set_option maxHeartbeats 4000000
/-! ### rules for lists of naturals, sequences of either kind -/
namespace GX
open PySem L2 PySem.Spec
section
variable {h : Hs} {Q : QD} {K : PySem.W.Frag} {x d : D} {ds xs : List D} {n : Nat} {zs : List Nat} {i : Int}
theorem SqV.nats (hv : SqV h x (zs.map natD)) : SqV h x ((zs.map fun n : Nat => (n : Int)).map .int) := by rw [← natD_ints]; exact hv
theorem LsV.nats (hv : LsV h x (zs.map natD)) : LsV h x ((zs.map fun n : Nat => (n : Int)).map .int) := by rw [← natD_ints]; exact hv
theorem mem_cast : ((n : Int) ∈ zs.map fun n : Nat => (n : Int)) ↔ n ∈ zs := by
  constructor
  · intro h
    obtain ⟨m, hm, e⟩ := List.mem_map.mp h
    have : m = n := by omega
    exact this ▸ hm
  · exact fun h => List.mem_map_of_mem h
theorem w_inN (hv : SqV h x (zs.map natD)) (q : Q (.bl (decide (n ∈ zs))) h) : dR2 (rInG K) (.int (n : Int)) x h Q := w_inI hv.nats (by
  have e : decide ((n : Int) ∈ zs.map fun n : Nat => (n : Int)) = decide (n ∈ zs) := decide_eq_decide.mpr mem_cast
  rw [e]
  exact q)
theorem w_ninN (hv : SqV h x (zs.map natD)) (q : Q (.bl (!decide (n ∈ zs))) h) : dR2 (rNinG K) (.int (n : Int)) x h Q := w_ninI hv.nats (by
  have e : decide ((n : Int) ∈ zs.map fun n : Nat => (n : Int)) = decide (n ∈ zs) := decide_eq_decide.mpr mem_cast
  rw [e]
  exact q)
theorem v_indexN {m : Nat} (hv : LsV h x (zs.map natD)) (e : zs[n]? = some m) (nd : ∀ j, j < n → zs[j]? ≠ some m) (q : Q (.int (n : Int)) h) : dRM (rIndex K) x [.int (m : Int)] h Q := by
  refine v_indexI hv.nats (by rw [List.getElem?_map, e]; rfl) (fun j hj ej => ?_) q
  rw [List.getElem?_map] at ej
  cases e2 : zs[j]? with
  | none => rw [e2] at ej; cases ej
  | some k =>
    rw [e2] at ej
    have : k = m := by
      have : (k : Int) = m := Option.some.inj ej
      omega
    exact nd j hj (this ▸ e2)
theorem w_ixV (hv : SqV h x ds) (e : atI ds i = some d) (q : Q d h) : dR2 (rIx K) x (.int i) h Q := by
  rcases hv with hv | rfl
  · exact w_ixL hv e q
  · exact w_ixT e q
theorem g_seqV {gs : TGs} {W : List Nat} {ρ : Rho} {N : Rho → Hs → Prop} (hx : SqV h x xs) (hl : xs.length = n) (z : dGs W gs xs ρ h N) : dG W (gSeq K n gs) x ρ h N := by
  rcases hx with hx | rfl
  · exact g_seqL hx hl z
  · exact g_seqT hl z
/-- a sequence that is data -/
def Sq0 (x : D) (ds : List D) : Prop := x = .tup ds ∨ x = .lst ds
theorem Sq0.v (s : Sq0 x ds) : SqV h x ds := by
  rcases s with rfl | rfl
  · exact .t
  · exact .l
theorem x_seq0 {R : List D → (Hs → Prop) → Prop} (s : Sq0 x ds) (q : R ds fun _ => True) : ∃ es Sd, SqI h x es Sd ∧ R es Sd := by
  rcases s with rfl | rfl
  · exact x_seqT q
  · exact x_seqF q
theorem rng_down (n : Nat) : rngD (n : Int) (-1) ((n : Int) - (-1)).toNat = (List.range (n + 1)).map fun i => natD (n - i) := by
  have e : ((n : Int) - (-1)).toNat = n + 1 := by omega
  rw [e]
  unfold rngD
  refine List.map_congr_left fun i hi => ?_
  have := List.mem_range.mp hi
  show D.int _ = D.int _
  congr 1
  omega
end
theorem numD_map {α : Type} (f : α → D) (l : List α) (dflt : α) : numD (l.map f) = (List.range l.length).map fun i => .tup [natD i, f (l.getD i dflt)] := by
  refine List.ext_getElem? fun i => ?_
  by_cases hi : i < l.length
  · rw [numD_get (x := f l[i]) (by rw [List.getElem?_map, List.getElem?_eq_getElem hi]; rfl), List.getElem?_map, List.getElem?_range hi]
    dsimp only [Option.map_some]
    rw [List.getD_eq_getElem?_getD, List.getElem?_eq_getElem hi]
    rfl
  · rw [List.getElem?_eq_none (by rw [numD_len, List.length_map]; omega), List.getElem?_eq_none (by rw [List.length_map, List.length_range]; omega)]
/-! ### the keys of what is needed -/
def ndK (l : List Nat) : List (Key × D) := l.map fun n : Nat => (Sum.inl (n : Int), D.bl true)
theorem ndK_keys (l : List Nat) : (ndK l).map (·.1) = (l.map fun n : Nat => (n : Int)).map Sum.inl := by unfold ndK; rw [List.map_map, List.map_map]; rfl
theorem ndK_in (l : List Nat) (n : Nat) : (dval (ndK l) (Sum.inl (n : Int))).isSome = decide (n ∈ l) := by
  rw [dval_keys, ndK_keys]
  refine decide_eq_decide.mpr ?_
  constructor
  · intro h
    obtain ⟨i, hi, e⟩ := List.mem_map.mp h
    cases e
    exact mem_cast.mp hi
  · exact fun h => List.mem_map_of_mem (mem_cast.mpr h)
theorem ndK_put (l : List Nat) (n : Nat) : dput (ndK l) (Sum.inl (n : Int)) (.bl true) = ndK (if n ∈ l then l else l ++ [n]) := by
  by_cases h : n ∈ l
  · rw [if_pos h]
    unfold dput
    have : ((ndK l).any fun kv => decide (kv.1 = Sum.inl (n : Int))) = true := by
      refine List.any_eq_true.mpr ⟨(Sum.inl (n : Int), .bl true), List.mem_map_of_mem h, decide_eq_true rfl⟩
    rw [if_pos this]
    unfold ndK
    rw [List.map_map]
    refine List.map_congr_left fun m _ => ?_
    show (if _ then _ else _) = _
    split
    · rename_i e
      have e := e
      first | rw [e] | skip
      all_goals first | rfl | simp_all
    · rfl
  · rw [if_neg h]
    have e : dval (ndK l) (Sum.inl (n : Int)) = none := by
      have := ndK_in l n
      rw [decide_eq_false h] at this
      exact Option.not_isSome_iff_eq_none.mp (by rw [this]; exact Bool.false_ne_true)
    rw [dput_new _ e]
    unfold ndK
    rw [List.map_append]
    rfl
/-- the set while it grows -/
theorem nd_grow {l : List Nat} (nd : l.Nodup) (n : Nat) : (if n ∈ l then l else l ++ [n]).Nodup ∧ ∀ k, k ∈ (if n ∈ l then l else l ++ [n]) ↔ k ∈ l ∨ k = n := by
  by_cases h : n ∈ l
  · rw [if_pos h]
    exact ⟨nd, fun k => ⟨.inl, fun q => q.elim id fun e => e ▸ h⟩⟩
  · rw [if_neg h]
    refine ⟨List.nodup_append.mpr ⟨nd, by simp, fun a ha b hb e => ?_⟩, fun k => ?_⟩
    · rw [List.mem_singleton.mp hb] at e
      exact h (e ▸ ha)
    · rw [List.mem_append, List.mem_singleton]
theorem nd_few {l : List Nat} {m : Nat} (nd : l.Nodup) (h : ∀ k ∈ l, k < m) : l.length ≤ m := by
  have := nd.length_le_of_subset (l₂ := List.range m) fun k hk => List.mem_range.mpr (h k hk)
  rwa [List.length_range] at this
/-- keys sorted -/
theorem asc_of_perm {ms : List Int} {l : List Nat} (nd : l.Nodup) (pm : ms.Perm (l.map fun n : Nat => (n : Int))) (pw : ms.Pairwise (· ≤ ·)) : ∃ ns : List Nat, ms = ns.map (fun n : Nat => (n : Int)) ∧ Asc ns ∧ ∀ k, k ∈ ns ↔ k ∈ l := by
  refine asc_int ?_ fun k => pm.mem_iff
  have nd2 : ms.Nodup := pm.nodup_iff.mpr (List.pairwise_map.mpr (nd.imp fun {a b} hab => by omega))
  refine (pw.and nd2).imp fun {a b} hab => ?_
  have h1 := hab.1
  have h2 : a ≠ b := hab.2
  omega
theorem atI_last {α : Type} {xs : List α} {v : α} {n : Nat} (e : xs[n]? = some v) (hl : xs.length = n + 1) : atI xs (-1) = some v := by
  unfold atI ixN
  rw [if_neg (by decide), if_pos (by omega), hl]
  show xs[(-1 + ((n + 1 : Nat) : Int)).toNat]? = some v
  have : (-1 + ((n + 1 : Nat) : Int)).toNat = n := by omega
  rw [this, e]
theorem mem_take_idx {ns : List Nat} {i a b : Nat} (asc : Asc ns) (ha : ns[i]? = some a) (hb : b ∈ ns) (lt : b < a) : b ∈ ns.take i := by
  have h1 := asc_idx asc (idx_at hb) ha lt
  exact List.mem_of_getElem? (i := ns.idxOf b) (by rw [List.getElem?_take, if_pos h1]; exact idx_at hb)
end GX

set_option Elab.async false
set_option linter.all false
set_option maxRecDepth 100000
set_option maxHeartbeats 4000000
namespace GX
open PySem L2 PySem.Spec
theorem sizes_le {ts : List Trip} {ss : List GStep} {ks : List Str} (ok : StepsOk ts ss ks) (h3 : ∀ t ∈ ts, t.2.2.length ≤ 3) : ∀ (n sz : Nat), (sizesOf ss)[n]? = some sz → sz ≤ 4 ^ (n + 1) := by
  intro n
  induction n using Nat.strongRecOn with
  | ind n ih =>
    intro sz e
    have hn := (List.getElem?_eq_some_iff.mp e).1
    rw [sizesOf_len] at hn
    have es := List.getElem?_eq_getElem hn
    rw [sizes_at ok es] at e
    cases e
    obtain ⟨t, tm, _, el, _, _⟩ := ok.get es
    have lp := h3 t tm
    have hlt := ok.lt es
    generalize ss[n] = s at es el hlt
    have hb : ∀ i ∈ s.2, (sizesOf ss).getD i 0 ≤ 4 ^ n := fun i hi => by
      have h1 := hlt i hi
      have e2 := List.getElem?_eq_getElem (show i < (sizesOf ss).length by rw [sizesOf_len]; omega)
      rw [List.getD_eq_getElem?_getD, e2]
      exact Nat.le_trans (ih i h1 _ e2) (Nat.pow_le_pow_right (by decide) h1)
    have hs : ∀ l : List Nat, (∀ i ∈ l, (sizesOf ss).getD i 0 ≤ 4 ^ n) → (l.map fun i => (sizesOf ss).getD i 0).sum ≤ l.length * 4 ^ n := by
      intro l
      induction l with
      | nil => intro _; simp
      | cons a l ih =>
        intro h
        have h1 := h a (List.mem_cons_self ..)
        have h2 := ih fun i hi => h i (List.mem_cons_of_mem _ hi)
        rw [List.map_cons, List.sum_cons, List.length_cons, Nat.add_mul]
        omega
    have h1 := hs s.2 hb
    have h2 : s.2.length * 4 ^ n ≤ 3 * 4 ^ n := Nat.mul_le_mul_right _ (by omega)
    have h4 : 4 ^ (n + 1) = 4 * 4 ^ n := by rw [Nat.pow_succ, Nat.mul_comm]
    have h5 : 0 < 4 ^ n := Nat.pow_pos (by decide)
    omega
theorem mt_indexK {X : Cx} {K : PySem.W.Frag} (hK : X.K = K) : MtR X "list.index" (rIndex K) := hK ▸ mt_index
end GX

set_option Elab.async false
set_option linter.all false
set_option maxRecDepth 100000
set_option maxHeartbeats 4000000
/-! ### (a, .., *b) = a tuple -/
namespace GX
open PySem L2 PySem.Spec PyProof.Rows PySem.W
section
variable {prog : Program} {w : World} {A : Around} {E : Value → Shared → Prop} {s : Shared}
theorem unpack_star {l : Addr} {items : Array Value} {i : Nat} {Q : List Value → Shared → Prop} (hl : IsTup s.heap l items) (hh : A.handled = none) (hi : i ≤ items.size) (hz : items.size ≤ sizeLine)
    (h : ∀ (h' : Heap) (tk : Nat), (∀ b o, s.heap.get? b = some o → h'.get? b = some o) → Q (items.toList.take i ++ [.ref h'.objs.size]) { s with heap := h'.push { cls := .type "list", data := .seq (items.toList.drop i).toArray }, toks := tk }) :
    wpAny (model prog w) A (unpackItems (.ref l) (i + 1) (some i)) Q E s := by
  have hlt : l ≠ s.heap.objs.size := by obtain ⟨o, ho, _⟩ := hl; exact Nat.ne_of_lt (Heap.lt_size ho)
  have hll : l < s.heap.objs.size := by obtain ⟨o, ho, _⟩ := hl; exact Heap.lt_size ho
  unfold unpackItems
  refine wpAny_bind ?_
  unfold notIterableAtAll
  refine wpAny_bind (wpAny_specialOf hl.typeIs slot_tuple_iter.lookup ?_)
  refine wpAny_pure ?_
  simp only [Bool.false_eq_true, if_false]
  refine wpAny_bind (wpAny_holding (iter_tuple hl ?_))
  refine wpAny_bind (wpAny_holding (draw_tuple hlt i 0 _ _ ⟨_, Heap.get?_push_size _ rfl, rfl, rfl⟩ (hl.push _) (by omega) fun h₁ hit₁ hs₁ => ?_))
  have hl₁ : IsTup h₁ l items := (hl.push _).extBut hs₁.extBut hlt
  rw [Nat.zero_add] at hit₁
  have hit₁' := hit₁
  obtain ⟨oi, hoi, _⟩ := hit₁'
  have hl₁' := hl₁
  obtain ⟨ol, hol, _⟩ := hl₁'
  rw [List.drop_zero]
  have hfl : (items.toList.take i).length = i := by rw [List.length_take, Array.length_toList]; omega
  rw [if_neg (show ¬ ((items.toList.take i).length < i) by rw [hfl]; omega)]
  refine wpAny_bind (wpAny_holding (kun_collect (s := { s with heap := h₁ }) (T := "tuple_iterator") (.inr (.inr (.inr rfl))) (Walks.tuple (A := A.in1) hh s.heap.objs.size l hlt items) (fun j u st => st.1.typeIs) (k := i) (by omega) ⟨hit₁, hl₁⟩ (Heap.lt_size hoi) (Heap.lt_size hol) (fun h₂ tk hk => ?_) hz))
  have hrl : (items.toList.drop i).length = items.size - i := by rw [List.length_drop, Array.length_toList]
  have hmid : (items.toList.drop i).length - (i + 1 - 1 - i) = (items.toList.drop i).length := by omega
  show wpAny _ _ (if (items.toList.drop i).length < i + 1 - 1 - i then _ else _) _ _ _
  rw [if_neg (by omega)]
  show wpAny _ _ (newList ((items.toList.drop i).take ((items.toList.drop i).length - (i + 1 - 1 - i))) >>= fun d => pure (items.toList.take i ++ [d] ++ (items.toList.drop i).drop ((items.toList.drop i).length - (i + 1 - 1 - i)))) _ _ _
  rw [hmid, List.take_length, List.drop_length]
  have he : ∀ b o, s.heap.get? b = some o → h₂.get? b = some o := fun b o e => by
    have nb : b ≠ s.heap.objs.size := Nat.ne_of_lt (Heap.lt_size e)
    exact hk b o nb (hs₁.extBut b o nb (Heap.get?_push_of_some _ e))
  refine wpAny_bind (wpAny_newList (s := { s with heap := h₂, toks := tk }) (wpAny_pure ?_) (by rw [hrl]; omega))
  rw [List.append_nil]
  exact h _ tk he
end
section
variable {X : Cx}
/-- (a, .., *b) = a tuple: n items, the others a new list -/
def gStar (K : PySem.W.Frag) (n : Nat) (t : TGs) : TG := fun v σ H Q => ∃ a xs, v = .ref a ∧ SqT K H a xs ∧ n ≤ xs.length ∧ ∀ l, H l = none → t (xs.take n ++ [.ref l]) σ (upd H l (.lst (xs.drop n))) Q
theorem vals_take {xs : List V} {us : List Value} (n : Nat) (h : Vals xs us) : Vals (xs.take n) (us.take n) := by
  unfold Vals at *
  induction h generalizing n with
  | nil => rw [List.take_nil, List.take_nil]; exact .nil
  | cons a b ih =>
    cases n with
    | zero => exact .nil
    | succ n => exact .cons a (ih n)
theorem vals_drop {xs : List V} {us : List Value} (n : Nat) (h : Vals xs us) : Vals (xs.drop n) (us.drop n) := by
  unfold Vals at *
  induction h generalizing n with
  | nil => rw [List.drop_nil, List.drop_nil]; exact .nil
  | cons a b ih =>
    cases n with
    | zero => exact .cons a b
    | succ n => exact ih n
theorem vals_snoc {xs : List V} {us : List Value} {v : V} {u : Value} (h : Vals xs us) (r : RelV v u) : Vals (xs ++ [v]) (us ++ [u]) := by
  unfold Vals at *
  induction h with
  | nil => exact .cons r .nil
  | cons a b ih => exact .cons a ih
theorem pg_star {K : PySem.W.Frag} {es es' : List Expr} {k : Nat} {pos : Pos} {t : TGs} {n : Nat} (hK : X.K = K) (hc : X.calm = true) (h : PGs X es' t) (hm : (assignEach es X.env).map (·.2) = (assignEach es' X.env).map (·.2) := by rfl)
    (hn : (assignEach es X.env).length = n + 1 := by rfl) (hst : (assignEach es X.env).findIdx? (·.1) = some n := by rfl) : PG X (.Tuple es k pos) (gStar K n t) := by
  subst hK
  refine ⟨fun pins s σ H v u Q I r hw => ?_⟩
  obtain ⟨a, xs, e1, hq, hl, hw⟩ := hw
  subst e1
  cases r
  obtain ⟨its, rv, ht, hz⟩ := I.tuple hq
  have ln := rv.length
  rw [assign_Tuple]
  refine wpAny_bind (wpAny_standAt ?_)
  unfold unpack
  rw [hn, hst, hm]
  refine wpAny_bind (wpAny_holding (unpack_star ht (I.ok.hd hc) (by simp only [List.size_toArray]; omega) (by simp only [List.size_toArray]; omega) fun h' tk kept => ?_))
  have I1 : Inv X pins σ H { s with heap := h', toks := tk } := I.kept kept
  have hf : H h'.objs.size = none := I1.hok.fresh (Nat.le_refl _)
  have hz2 : (xs.drop n).length ≤ sizeLine := by rw [List.length_drop]; omega
  have I2 : Inv X pins σ (upd H h'.objs.size (.lst (xs.drop n))) { s with heap := h'.push { cls := .type "list", data := .seq (its.drop n).toArray }, toks := tk } :=
    I1.laid (t' := tk) (fun b u e => Heap.get?_push_of_some _ e) (Nat.le_refl _) ⟨hz2, its.drop n, 0, vals_drop n rv, Heap.get?_push_size _ rfl⟩
  exact h.run pins _ σ _ _ _ Q I2 (vals_snoc (v := .ref h'.objs.size) (vals_take n rv) rfl) (hw _ hf)
end
section
variable {h : Hs} {Q : QD} {K : PySem.W.Frag} {x : D} {xs ds : List D} {n : Nat}
theorem g_star {gs : TGs} {W : List Nat} {ρ : Rho} {N : Rho → Hs → Prop} (hl : n ≤ xs.length) (z : dGs W gs (xs.take n ++ [.lst (xs.drop n)]) ρ h N) : dG W (gStar K n gs) (.tup xs) ρ h N := fun σ H v N' rl dx p => by
  cases dx with
  | @tup q vs _ e0 dxs =>
    have e1 := (fz_some e0).2
    refine ⟨q, vs, rfl, .of e1, by rw [dxs.len]; exact hl, fun l nl => ?_⟩
    obtain ⟨r1, s1⟩ := rl.rh.newF (o := .lst (vs.drop n)) nl
    have d1 := dxs.mono s1
    refine z σ _ _ N' (rl.step r1 s1) ((d1.take n).app (.one (.lst (by rw [fz_new rl.rh nl, upd_same]) (d1.drop n)))) fun ρ' h' σ' H' q r s l2 u => p ρ' h' σ' H' q r (s1.trans s) l2 u
end
end GX

set_option Elab.async false
set_option linter.all false
set_option maxRecDepth 100000
set_option maxHeartbeats 4000000
/-! ### isinstance, < and > of plain data -/
namespace GX
open PySem L2 PySem.Spec PyProof.Rows PySem.W
section
variable {X : Cx} {K : PySem.W.Frag}
theorem call_isiK (hK : X.K = K) : CallR X (.builtin "isinstance") (rIsi K) := hK ▸ call_isi
def rGtD (K : PySem.W.Frag) : R2 := fun x y H Q => ∃ d e, Dp K H x d ∧ Dp K H y e ∧ alike d e = true ∧ d ≠ .none ∧ d.depth ≤ 64 ∧ Q (.bl (dataLt e d)) H
def rLtD (K : PySem.W.Frag) : R2 := fun x y H Q => ∃ d e, Dp K H x d ∧ Dp K H y e ∧ alike d e = true ∧ d ≠ .none ∧ d.depth ≤ 64 ∧ Q (.bl (dataLt d e)) H
theorem op_gtDK (hK : X.K = K) (hu : X.A.units + 65 < cLine) : OpR X (compareOp .Gt) (rGtD K) := by
  subst hK
  intro pins s σ H x y v u Q I rx ry ⟨d, e, hd, he, al, nn, dp, q⟩
  obtain ⟨as, r1⟩ := Dp.reads I d x v hd rx
  obtain ⟨bs, r2⟩ := Dp.reads I e y u he ry
  refine rcGt_alike d e X.A s v u as bs r1 r2 al nn ?_ _ _ _ _ ⟨.bl _, H, I, rfl, q⟩
  have := Nat.min_le_left d.depth e.depth
  omega
theorem op_ltDK (hK : X.K = K) (hu : X.A.units + 65 < cLine) : OpR X (compareOp .Lt) (rLtD K) := by
  subst hK
  intro pins s σ H x y v u Q I rx ry ⟨d, e, hd, he, al, nn, dp, q⟩
  obtain ⟨as, r1⟩ := Dp.reads I d x v hd rx
  obtain ⟨bs, r2⟩ := Dp.reads I e y u he ry
  refine rcLt_alike d e X.A s v u as bs r1 r2 al nn ?_ _ _ _ _ ⟨.bl _, H, I, rfl, q⟩
  have := Nat.min_le_left d.depth e.depth
  omega
end
section
variable {ρ : Rho} {h : Hs} {Q : QD} {K : PySem.W.Frag} {x y : D} {ds : List D} {z : Str}
theorem d_cTy {n : String} (q : Q (.ty n) h) : dE (tC (.ty n)) ρ h Q := d_c (fun _ => .ty n) q
theorem kitOne_tuple : PySem.W.kitOne K (.type "tuple") (.type "tuple") = some true := by
  unfold PySem.W.kitOne
  rw [if_pos (by decide)]
theorem kitOne_str : PySem.W.kitOne K (.type "str") (.type "str") = some true := by
  unfold PySem.W.kitOne
  rw [if_pos (by decide)]
theorem v_isiT (q : Q (.bl true) h) : dRA (rIsi K) [.tup ds, .ty "tuple"] h Q := fun vs H Q' r dx p => by
  cases dx with
  | cons d1 d2 =>
    cases d2 with
    | cons d2 d3 =>
      cases d3
      cases d2
      cases d1 with
      | @tup a xs _ e0 dxs =>
        exact ⟨_, _, _, _, true, rfl, .ty _, .base (.tup (fz_some e0).2), kitOne_tuple, post_id p r (.bl true) q⟩
theorem v_isiS (q : Q (.bl true) h) : dRA (rIsi K) [.str z, .ty "str"] h Q := fun vs H Q' r dx p => by
  cases dx with
  | cons d1 d2 =>
    cases d2 with
    | cons d2 d3 =>
      cases d3
      cases d2
      cases d1
      exact ⟨_, _, _, _, true, rfl, .ty _, .base (.str _), kitOne_str, post_id p r (.bl true) q⟩
theorem v_gtD (o1 : okP x = true) (o2 : okP y = true) (al : alike (toP x) (toP y) = true) (nn : toP x ≠ .none) (dp : (toP x).depth ≤ 64) (q : Q (.bl (dataLt (toP y) (toP x))) h) : dR2 (rGtD K) x y h Q := fun v w H Q' r dx dy p =>
  ⟨_, _, dp_of o1 dx, dp_of o2 dy, al, nn, dp, post_id p r (.bl _) q⟩
theorem v_ltD (o1 : okP x = true) (o2 : okP y = true) (al : alike (toP x) (toP y) = true) (nn : toP x ≠ .none) (dp : (toP x).depth ≤ 64) (q : Q (.bl (dataLt (toP x) (toP y))) h) : dR2 (rLtD K) x y h Q := fun v w H Q' r dx dy p =>
  ⟨_, _, dp_of o1 dx, dp_of o2 dy, al, nn, dp, post_id p r (.bl _) q⟩
end
end GX

set_option Elab.async false
set_option linter.all false
set_option maxRecDepth 100000
set_option maxHeartbeats 4000000
/-! ### zip(a tuple, a list) -/
namespace GX
open PySem L2 PySem.Spec PyProof.Rows
abbrev mz1 (h : Heap) (t : Addr) : Heap := h.push { cls := .type "tuple_iterator", data := .fields #[.ref t, .int 0 0] }
abbrev mz2 (h : Heap) (t l : Addr) : Heap := (mz1 h t).push { cls := .type "list_iterator", data := .fields #[.ref l, .int 0 0] }
abbrev mz3 (h : Heap) (t l : Addr) : Heap := (mz2 h t l).push { cls := .type "tuple", data := .seq #[.ref h.objs.size, .ref (mz1 h t).objs.size] }
abbrev mz4 (h : Heap) (t l : Addr) : Heap := (mz3 h t l).push { cls := .type "tuple", data := .seq #[.none, .none] }
abbrev mz5 (h : Heap) (t l : Addr) : Heap := (mz4 h t l).push { cls := .type "zip", data := .fields #[.none, .bool false, .bool false, .ref (mz2 h t l).objs.size, .ref (mz3 h t l).objs.size] }
theorem meets_mzip (t l : Addr) (xs ys : Array Value) :
    Meets (Builtin.«zip.__new__» ⟨[.type "zip", .ref t, .ref l], []⟩) (fun _ R s => s.heap.IsTuple t xs ∧ s.heap.IsList l ys ∧ R (.ok (.ret (.ref (mz4 s.heap t l).objs.size))) { s with heap := mz5 s.heap t l }) :=
  .of_wp fun prog w A R s h => by
    obtain ⟨hp, g, d, tk, os⟩ := s
    obtain ⟨hl1, hl2, h⟩ := h
    have hsub := sub_zip
    have a1 : Heap.IsTuple (Shared.heap ⟨hp, g, d, tk, os⟩) t xs := hl1
    have a2 : Heap.IsList (Shared.heap ⟨hp.push { cls := .type "tuple_iterator", data := .fields #[.ref t, .int 0 0] }, g, d, tk, os⟩) l ys := Heap.IsList.push hl2 _
    wp_walk using wpAny_pyIter_tuple a1, wpAny_pyIter_list a2
    exact ⟨_, rfl, h⟩
section
variable {prog : Program} {w : World} {A : Around} {E : Value → Shared → Prop} {s : Shared}
/-- the five new objects of a zip made at n -/
structure MzNew (h h' : Heap) (t l : Addr) : Prop where
  z : IsZip h' (h.objs.size + 4) (h.objs.size + 2) (h.objs.size + 3) .none
  ti : IsPair h' (h.objs.size + 2) (.ref h.objs.size) (.ref (h.objs.size + 1))
  to : IsPair h' (h.objs.size + 3) .none .none
  i1 : h'.IsTupleIter h.objs.size t 0
  i2 : h'.IsListIter (h.objs.size + 1) l 0
  keep : ∀ c o, h.get? c = some o → h'.get? c = some o
theorem mz_new (h : Heap) (t l : Addr) : MzNew h (mz5 h t l) t l ∧ (mz4 h t l).objs.size = h.objs.size + 4 := by
  have z1 : (mz1 h t).objs.size = h.objs.size + 1 := Heap.size_push ..
  have z2 : (mz2 h t l).objs.size = h.objs.size + 2 := by rw [Heap.size_push, z1]
  have z3 : (mz3 h t l).objs.size = h.objs.size + 3 := by rw [Heap.size_push, z2]
  have z4 : (mz4 h t l).objs.size = h.objs.size + 4 := by rw [Heap.size_push, z3]
  have up4 : ∀ {c o}, (mz4 h t l).get? c = some o → (mz5 h t l).get? c = some o := fun e => Heap.get?_push_of_some _ e
  have up3 : ∀ {c o}, (mz3 h t l).get? c = some o → (mz5 h t l).get? c = some o := fun e => up4 (Heap.get?_push_of_some _ e)
  have up2 : ∀ {c o}, (mz2 h t l).get? c = some o → (mz5 h t l).get? c = some o := fun e => up3 (Heap.get?_push_of_some _ e)
  have up1 : ∀ {c o}, (mz1 h t).get? c = some o → (mz5 h t l).get? c = some o := fun e => up2 (Heap.get?_push_of_some _ e)
  have g5 : IsZip (mz5 h t l) (mz4 h t l).objs.size (mz2 h t l).objs.size (mz3 h t l).objs.size .none := Heap.get?_push_size _ rfl
  have g4 : IsPair (mz5 h t l) (mz3 h t l).objs.size .none .none := up4 (Heap.get?_push_size _ rfl)
  have g3 : IsPair (mz5 h t l) (mz2 h t l).objs.size (.ref h.objs.size) (.ref (mz1 h t).objs.size) := up3 (Heap.get?_push_size _ rfl)
  have g2 : (mz5 h t l).IsListIter (mz1 h t).objs.size l 0 := ⟨_, up2 (Heap.get?_push_size _ rfl), rfl, rfl⟩
  have g1 : (mz5 h t l).IsTupleIter h.objs.size t 0 := ⟨_, up1 (Heap.get?_push_size _ rfl), rfl, rfl⟩
  generalize mz5 h t l = h5 at g1 g2 g3 g4 g5 up1 up2 up3 up4 ⊢
  rw [z4, z2, z3] at g5
  rw [z3] at g4
  rw [z2, z1] at g3
  rw [z1] at g2
  exact ⟨⟨g5, g3, g4, g1, g2, fun c o e => up1 (Heap.get?_push_of_some _ e)⟩, z4⟩
theorem call_mzip {t l : Addr} {xs ys : Array Value} {Q : Value → Shared → Prop} (h1 : s.heap.IsTuple t xs) (h2 : s.heap.IsList l ys) (h : ∀ h', MzNew s.heap h' t l → Q (.ref (s.heap.objs.size + 4)) { s with heap := h' }) :
    wpAny (model prog w) A (call (.type "zip") [.ref t, .ref l]) Q E s := by
  refine callType_new F.called_zip (by decide) (F.typeCall_zip_2 _ _) (F.newCall_zip_2 _ _) (fun obj => F.args_object_init_3 obj _ _) F.entry_zip_new (meets_mzip t l xs ys) ⟨h1, h2, ?_⟩
  obtain ⟨nw, z4⟩ := mz_new s.heap t l
  show _ ∧ _
  rw [z4]
  exact ⟨⟨_, nw.z, rfl⟩, h _ nw⟩
end
/-- a tuple and a list as they stand at each turn, the items in new pairs -/
def Itm (K : PySem.W.Frag) (a b : Addr) : It :=
  ⟨fun i H => ∃ (xs ys : List V) (x y : V), SqT K H a xs ∧ SqL K H b ys ∧ xs[i]? = some x ∧ ys[i]? = some y,
    fun i H v H' => ∃ T x y, v = .ref T ∧ H T = none ∧ H' = upd H T (.tup [x, y]) ∧ (∀ xs, SqT K H a xs → xs[i]? = some x) ∧ ∀ ys, SqL K H b ys → ys[i]? = some y,
    fun i H => ∃ xs ys : List V, SqT K H a xs ∧ SqL K H b ys ∧ (xs.length ≤ i ∨ ys.length ≤ i) ∧ i ≤ xs.length ∧ i ≤ ys.length⟩
theorem mz_five {P : Addr → Prop} {z TI TO i1 i2 c : Addr} (h : c ∈ [z, TI, TO, i1, i2]) (a : P z) (b : P TI) (d : P TO) (e : P i1) (f : P i2) : P c := by
  have e' : c = z ∨ c = TI ∨ c = TO ∨ c = i1 ∨ c = i2 := by simpa using h
  rcases e' with q | q | q | q | q <;> (rw [q]; assumption)
theorem mz_sep {z TI TO i1 i2 l1 l2 : Addr} (D : ZipApart z TI TO i1 i2 l1 l2) (n1 : i1 ≠ l2) (n2 : i2 ≠ l1) : ZipSep2 z TI TO i1 i2 [i1, l1] [i2, l2] := by
  obtain ⟨a1, a2, a3, a4, a5, a6, a7, a8, a9, a10, b1, b2, b3, b4, c1, c2, c3, c4⟩ := D
  refine ⟨a1, a2, a5, a6, by simp, ?_, ?_, a7, by simp, ?_, ?_, ?_, ?_⟩ <;> simp only [List.mem_cons, List.mem_nil_iff, or_false, not_or]
  · exact ⟨a3.symm, b1.symm⟩
  · exact ⟨a8, b2.symm⟩
  · exact ⟨a4.symm, c1.symm⟩
  · exact ⟨a9, c2.symm⟩
  · exact ⟨a10, n1⟩
  · exact ⟨a10.symm, n2⟩
end GX

set_option Elab.async false
set_option linter.all false
set_option maxRecDepth 100000
set_option maxHeartbeats 4000000
/-! ### zip(a tuple, a list), walked -/
namespace GX
open PySem L2 PySem.Spec PyProof.Rows
theorem turn_mzip {P : Program} {w : World} {K : PySem.W.Frag} {elts : List Expr} {kk : Nat} {tpos : Pos} {a b z TI TO i1 i2 : Addr} (D : ZipApart z TI TO i1 i2 a b) :
    Turn P w K (.Tuple elts kk tpos) (Itm K a b) [z, TI, TO, i1, i2] z (fun i h => IsZip h z TI TO .none ∧ IsPair h TI (.ref i1) (.ref i2) ∧ (∃ x y, IsPair h TO x y) ∧ h.IsTupleIter i1 a i ∧ h.IsListIter i2 b i) where
  mem := List.mem_cons_self ..
  obj := fun i h ⟨hz, hTI, ⟨x, y, hTO⟩, ⟨o1, e1, _, d1⟩, ⟨o2, e2, _, d2⟩⟩ c hc =>
    mz_five (P := fun c => ∃ o, h.get? c = some o ∧ ∀ v, o.data ≠ .cell v) hc ⟨_, hz, fun v q => nomatch q⟩ ⟨_, hTI, fun v q => nomatch q⟩ ⟨_, hTO, fun v q => nomatch q⟩ ⟨o1, e1, fun v q => by rw [d1] at q; cases q⟩ ⟨o2, e2, fun v q => by rw [d2] at q; cases q⟩
  keep := fun i h h' ⟨hz, hTI, ⟨x, y, hTO⟩, h1, h2⟩ k =>
    ⟨k z (by simp) _ hz, k TI (by simp) _ hTI, ⟨x, y, k TO (by simp) _ hTO⟩, h1.at fun o q => k i1 (by simp) o q, h2.at fun o q => k i2 (by simp) o q⟩
  item := by
    intro X hP hw hK hc i pins s σ H E I hf st hg
    subst hP hw hK
    obtain ⟨hz, hTI, ⟨x0, y0, hTO⟩, h1, h2⟩ := st
    obtain ⟨xs, ys, x, y, hqx, hqy, hx, hy⟩ := hg
    obtain ⟨its, rv, p1, _⟩ := I.tuple hqx
    obtain ⟨its2, rv2, p2, _⟩ := I.list hqy
    obtain ⟨u, hu, ru⟩ := rv.get hx
    obtain ⟨u2, hu2, ru2⟩ := rv2.get hy
    have zl : z < s.heap.objs.size := Heap.lt_size hz
    have calm : X.A.in1.handled = none := I.ok.hd hc
    have lt1 := (List.getElem?_eq_some_iff.mp hu).1
    have lt2 := (List.getElem?_eq_some_iff.mp hu2).1
    refine wpAny_pyNext_zipD2_item (mz_sep D D.l2i1.symm D.l1i2.symm) (Draws.tuple calm i1 a D.l1i1 its.toArray) (Draws.list calm i2 b D.l2i2 its2.toArray) hz hTI hTO ⟨h1, p1⟩ ⟨h2, p2.isList⟩ (by simpa using lt1) (by simpa using lt2) fun v1 v2 h' tk e1 e2 z' TO' st1 st2 hT hsz hk => ?_
    have q1 : v1 = u := by
      have e1 : its[i]? = some v1 := by simpa using e1
      rw [hu] at e1
      exact (Option.some.inj e1).symm
    have q2 : v2 = u2 := by
      have e2 : its2[i]? = some v2 := by simpa using e2
      rw [hu2] at e2
      exact (Option.some.inj e2).symm
    subst q1
    subst q2
    refine ⟨_, rfl, wpAny_letOwnedTupleGo_zip (s := { s with heap := h', toks := tk }) z' fun h'' z'' sb => ?_⟩
    have T2 : h''.get? s.heap.objs.size = some { cls := .type "tuple", data := .seq #[v1, v2] } := (sb.2 _ (Nat.ne_of_gt zl)).trans hT
    have new : ObjOk X.prog X.w (upd H s.heap.objs.size (.tup [x, y])) h'' s.heap.objs.size (.tup [x, y]) := ⟨by show 2 ≤ sizeLine; decide, [v1, v2], .cons ru (.cons ru2 .nil), ⟨_, T2, rfl, _, rfl⟩⟩
    have kept : ∀ c o, c ∉ [z, TI, TO, i1, i2] → s.heap.get? c = some o → h''.get? c = some o := fun c o hb q => by
      simp only [List.mem_cons, List.mem_nil_iff, or_false, not_or] at hb
      exact (sb.2 c hb.1).trans (hk c o hb.1 hb.2.2.1 hb.2.2.2.1 hb.2.2.2.2 q)
    have I1 := I.turnedNew (t' := tk) (ch := [z, TI, TO, i1, i2]) kept hf (Nat.le_refl _) new
    refine ⟨.ref s.heap.objs.size, _, I1, rfl, ⟨_, x, y, rfl, I.hok.fresh (Nat.le_refl _), rfl, fun l hl => by rw [I.tuple_inj hl hqx]; exact hx, fun l hl => by rw [I.list_inj hl hqy]; exact hy⟩, ⟨z'', ?_, ⟨v1, v2, ?_⟩, ?_, ?_⟩, fun c hcm => ?_⟩
    · exact (sb.2 _ D.TIz).trans (hk _ _ D.TIz D.TITO D.TIi1 D.TIi2 hTI)
    · exact (sb.2 _ D.TOz).trans TO'
    · exact st1.1.at fun o q => (sb.2 _ D.i1z).trans q
    · exact st2.1.at fun o q => (sb.2 _ D.i2z).trans q
    · obtain ⟨_, e1, _⟩ := h1
      obtain ⟨_, e2, _⟩ := h2
      have hlt : c < s.heap.objs.size := mz_five (P := fun c => c < s.heap.objs.size) hcm zl (Heap.lt_size hTI) (Heap.lt_size hTO) (Heap.lt_size e1) (Heap.lt_size e2)
      rw [upd_ne (Nat.ne_of_lt hlt)]
      exact (hf c hcm).1
  done := by
    intro X hP hw hK hc i pins s σ H E I hf st hg
    subst hP hw hK
    obtain ⟨hz, hTI, ⟨x0, y0, hTO⟩, h1, h2⟩ := st
    obtain ⟨xs, ys, hqx, hqy, hend, le1, le2⟩ := hg
    obtain ⟨its, rv, p1, _⟩ := I.tuple hqx
    obtain ⟨its2, rv2, p2, _⟩ := I.list hqy
    have l1 := rv.length
    have l2 := rv2.length
    have calm : X.A.in1.handled = none := I.ok.hd hc
    refine wpAny_pyNext_zipD2_end (mz_sep D D.l2i1.symm D.l1i2.symm) (Draws.tuple calm i1 a D.l1i1 its.toArray) (Draws.list calm i2 b D.l2i2 its2.toArray) hz hTI hTO ⟨h1, p1⟩ ⟨h2, p2.isList⟩ (by simp only [List.size_toArray]; omega) (by simp only [List.size_toArray]; omega) (by simp only [List.size_toArray]; omega) fun h' tk hk => ?_
    refine ⟨rfl, I.turnedL (t' := tk) (ch := [z, TI, TO, i1, i2]) (fun c o hb q => ?_) hf⟩
    simp only [List.mem_cons, List.mem_nil_iff, or_false, not_or] at hb
    exact hk c o hb.1 hb.2.2.1 hb.2.2.2.1 hb.2.2.2.2 q
  self := fun A i s Q E st h => wpAny_pyIter_zip st.1 h
end GX

set_option Elab.async false
set_option linter.all false
set_option maxRecDepth 100000
set_option maxHeartbeats 4000000
/-! ### zip of lists and tuples -/
namespace GX
open PySem L2 PySem.Spec PyProof.Rows
def iZipG (K : PySem.W.Frag) (ta : TA) : TI := fun σ H R => ta σ H fun vs H1 => ∃ a b xs ys, vs = [.ref a, .ref b] ∧
  ((SqL K H1 a xs ∧ SqL K H1 b ys ∧ R (Itz K a b) H1) ∨ (SqT K H1 a xs ∧ SqT K H1 b ys ∧ R (RZ.ItzT K a b) H1) ∨ (SqT K H1 a xs ∧ SqL K H1 b ys ∧ R (Itm K a b) H1))
theorem pi_zipG {X : Cx} {K : PySem.W.Frag} {e e2 : Expr} {ta : TA} {p pos tpos : Pos} {elts : List Expr} {kk : Nat} (hK : X.K = K) (hg : Gl X "zip") (hm : X.mg "zip" = none) (ha : PA X [e, e2] ta)
    (hs : starEach [e, e2] X.env = (false, eval e X.env) :: starEach [e2] X.env := by rfl) (hpl : (backTo pos (starEach [e2] X.env)).any (·.1) = false := by rfl) :
    PI X (.Tuple elts kk tpos) (.Call (.Name "zip" p) [e, e2] [] pos) (iZipG K ta) := by
  subst hK
  refine ⟨fun pins s σ H R I h => ?_⟩
  refine Call_ (ld_blt I hg hm PyProof.Rows.boot_zip (PyProof.Rows.callWith_type1 (thn (ha.run pos pins s σ H _ I h) fun us s1 ⟨vs, H1, I1, r1, a, b, xs, ys, ex, q1⟩ => ?_) hs hpl))
  subst ex
  cases r1 with
  | cons r rr =>
    cases rr with
    | cons r' rr =>
      cases rr
      cases r
      cases r'
      generalize hn : s1.heap.objs.size = n at *
      have fresh : ∀ c, c ∈ [n + 4, n + 2, n + 3, n, n + 1] → FpOk X pins H1 c := fun c hcm => by
        have hle : s1.heap.objs.size ≤ c := by
          rw [hn]
          exact mz_five (P := fun c => n ≤ c) hcm (Nat.le_add_right ..) (Nat.le_add_right ..) (Nat.le_add_right ..) (Nat.le_refl _) (Nat.le_add_right ..)
        exact I1.fpOk hle (I1.hok.fresh hle)
      rcases q1 with ⟨hqx, hqy, q⟩ | ⟨hqx, hqy, q⟩ | ⟨hqx, hqy, q⟩
      · obtain ⟨its, rv, p1, _⟩ := I1.list hqx
        obtain ⟨its2, rv2, p2, _⟩ := I1.list hqy
        refine call_zip_2 p1.isList p2.isList fun h' hz hTI hTO h1 h2 hsz hk => ?_
        rw [hn] at hz hTI hTO h1 h2 ⊢
        refine wpAny_pyIter_zip hz ⟨n + 4, [n + 4, n + 2, n + 3, n, n + 1], _, _, H1, rfl, I1.kept (t' := s1.toks) hk, turn_zip (PySem.W.ktu_apart n a b (hn ▸ p1.lt) (hn ▸ p2.lt)), ⟨hz, hTI, ⟨_, _, hTO⟩, h1, h2⟩, fresh, q⟩
      · obtain ⟨its, rv, p1, _⟩ := I1.tuple hqx
        obtain ⟨its2, rv2, p2, _⟩ := I1.tuple hqy
        obtain ⟨o1, ho1, _⟩ := id p1
        obtain ⟨o2, ho2, _⟩ := id p2
        refine RZ.call_zipT (show s1.heap.IsTuple a its.toArray from p1) (show s1.heap.IsTuple b its2.toArray from p2) fun h' hz hTI hTO h1 h2 hsz hk => ?_
        rw [hn] at hz hTI hTO h1 h2 ⊢
        refine wpAny_pyIter_zip hz ⟨n + 4, [n + 4, n + 2, n + 3, n, n + 1], _, _, H1, rfl, I1.kept (t' := s1.toks) hk, RZ.turn_zipT (PySem.W.ktu_apart n a b (hn ▸ Heap.lt_size ho1) (hn ▸ Heap.lt_size ho2)), ⟨hz, hTI, ⟨_, _, hTO⟩, h1, h2⟩, fresh, q⟩
      · obtain ⟨its, rv, p1, _⟩ := I1.tuple hqx
        obtain ⟨its2, rv2, p2, _⟩ := I1.list hqy
        obtain ⟨o1, ho1, _⟩ := id p1
        refine call_mzip (show s1.heap.IsTuple a its.toArray from p1) p2.isList fun h' nw => ?_
        obtain ⟨hz, hTI, hTO, h1, h2, hk⟩ := nw
        rw [hn] at hz hTI hTO h1 h2 ⊢
        refine wpAny_pyIter_zip hz ⟨n + 4, [n + 4, n + 2, n + 3, n, n + 1], _, _, H1, rfl, I1.kept (t' := s1.toks) hk, turn_mzip (PySem.W.ktu_apart n a b (hn ▸ Heap.lt_size ho1) (hn ▸ p2.lt)), ⟨hz, hTI, ⟨_, _, hTO⟩, h1, h2⟩, fresh, q⟩
section
variable {ρ : Rho} {h : Hs} {K : PySem.W.Frag} {R : List D → (Hs → Prop) → Hs → Prop} {Sd : Hs → Prop}
theorem it_mzip {H : Hp} {p q : Addr} {xs ys : List D} (w1 : ∀ h' H', RelH h' H' → StI Sd h H h' H' → ∃ vs, H' p = some (.tup vs) ∧ DxA (Fz h' H') vs xs)
    (w2 : ∀ h' H', RelH h' H' → StI Sd h H h' H' → ∃ vs, H' q = some (.lst vs) ∧ DxA (Fz h' H') vs ys) : ItOk (Itm K p q) (prsD xs ys) (StI Sd h H) := by
  refine ⟨fun H' => ∃ vs us, H' p = some (.tup vs) ∧ H' q = some (.lst us) ∧ vs.length = xs.length ∧ us.length = ys.length, fun i H1 x H2 => ∃ T v u vs us, x = .ref T ∧ H1 T = none ∧ H2 = upd H1 T (.tup [v, u]) ∧ H1 p = some (.tup vs) ∧ H1 q = some (.lst us) ∧ vs[i]? = some v ∧ us[i]? = some u, ⟨?_, ?_, ?_⟩, ?_, ?_⟩
  · rintro i H1 hi ⟨vs, us, e1, e2, l1, l2⟩
    rw [prsD_len] at hi
    exact ⟨vs, us, vs[i]'(by omega), us[i]'(by omega), .of e1, .of e2, List.getElem?_eq_getElem _, List.getElem?_eq_getElem _⟩
  · rintro H1 ⟨vs, us, e1, e2, l1, l2⟩
    refine ⟨vs, us, .of e1, .of e2, ?_⟩
    rw [prsD_len]
    omega
  · rintro i H1 x H2 hi ⟨vs, us, e1, e2, l1, l2⟩ y
    obtain ⟨T, v, u, h1, h2, h3, h4, h5⟩ := y
    exact ⟨T, v, u, vs, us, h1, h2, h3, e1, e2, h4 vs (.of e1), h5 us (.of e2)⟩
  · intro h' H' r s
    obtain ⟨vs, e, a⟩ := w1 h' H' r s
    obtain ⟨us, e2, a2⟩ := w2 h' H' r s
    exact ⟨vs, us, e, e2, a.len, a2.len⟩
  · rintro i h' H1 x H2 r s ⟨T, v, u, vs, us, rfl, nT, rfl, e1, e2, hv, hu⟩
    obtain ⟨vs', e1', a1⟩ := w1 h' _ r s
    obtain ⟨us', e2', a2⟩ := w2 h' _ r s
    rw [e1] at e1'
    rw [e2] at e2'
    cases e1'
    cases e2'
    obtain ⟨d1, ed1, dx1⟩ := a1.getV hv
    obtain ⟨d2, ed2, dx2⟩ := a2.getV hu
    obtain ⟨dp, rp, sp⟩ := pair_new r nT dx1 dx2
    exact ⟨_, prsD_get ed1 ed2, dp, rp, sp⟩
/-- zip of data: lists, or a tuple and a list -/
theorem i_zipLL {a : TA} (z : dA a ρ h fun xs h1 => ∃ ds es, xs = [.lst ds, .lst es] ∧ R (prsD ds es) (fun _ => True) h1) : dI (iZipG K a) ρ h R := fun σ H R' rl p =>
  z σ H _ rl fun xs h1 vs H1 ⟨ds, es, ex, q⟩ dx rh s => by
    subst ex
    cases dx with
    | cons d1 d2 =>
      cases d2 with
      | cons d2 d3 =>
        cases d3
        cases d1 with
        | @lst b vs1 _ e1 a1 =>
          cases d2 with
          | @lst c vs2 _ e2 a2 =>
            exact ⟨b, c, vs1, vs2, rfl, .inl ⟨.of (fz_some e1).2, .of (fz_some e2).2, p _ (fun _ => True) _ h1 H1 q rh s (it_zip (fun h' H' r' k => ⟨vs1, (fz_some (k.2 _ _ e1)).2, a1.mono k.2⟩) (fun h' H' r' k => ⟨vs2, (fz_some (k.2 _ _ e2)).2, a2.mono k.2⟩))⟩⟩
theorem i_zipTL {a : TA} (z : dA a ρ h fun xs h1 => ∃ ds es, xs = [.tup ds, .lst es] ∧ R (prsD ds es) (fun _ => True) h1) : dI (iZipG K a) ρ h R := fun σ H R' rl p =>
  z σ H _ rl fun xs h1 vs H1 ⟨ds, es, ex, q⟩ dx rh s => by
    subst ex
    cases dx with
    | cons d1 d2 =>
      cases d2 with
      | cons d2 d3 =>
        cases d3
        cases d1 with
        | @tup b vs1 _ e1 a1 =>
          cases d2 with
          | @lst c vs2 _ e2 a2 =>
            exact ⟨b, c, vs1, vs2, rfl, .inr (.inr ⟨.of (fz_some e1).2, .of (fz_some e2).2, p _ (fun _ => True) _ h1 H1 q rh s (it_mzip (fun h' H' r' k => ⟨vs1, (fz_some (k.2 _ _ e1)).2, a1.mono k.2⟩) (fun h' H' r' k => ⟨vs2, (fz_some (k.2 _ _ e2)).2, a2.mono k.2⟩))⟩)⟩
end
end GX

set_option Elab.async false
set_option linter.all false
set_option maxRecDepth 100000
set_option maxHeartbeats 4000000
/-! ### trees -/
namespace GX
open PySem L2 PySem.Spec
inductive T where
  | node (c : Str) (ch : List T)
mutual
/-- as data -/
def tD : T → D
  | .node c ch => .tup (.str c :: tDs ch)
def tDs : List T → List D
  | [] => []
  | t :: ts => tD t :: tDs ts
end
mutual
/-- nodes -/
def tsz : T → Nat
  | .node _ ch => 1 + tszs ch
def tszs : List T → Nat
  | [] => 0
  | t :: ts => tsz t + tszs ts
end
mutual
def tdp : T → Nat
  | .node _ ch => 1 + tdps ch
def tdps : List T → Nat
  | [] => 0
  | t :: ts => max (tdp t) (tdps ts)
end
theorem tDs_map (l : List T) : tDs l = l.map tD := by
  induction l with
  | nil => rfl
  | cons t l ih => rw [tDs, ih]; rfl
theorem tszs_sum (l : List T) : tszs l = (l.map tsz).sum := by
  induction l with
  | nil => rfl
  | cons t l ih => rw [tszs, ih]; rfl
theorem tdps_le {l : List T} {t : T} (h : t ∈ l) : tdp t ≤ tdps l := by
  induction l with
  | nil => cases h
  | cons a l ih =>
    rw [tdps]
    rcases List.mem_cons.mp h with q | q
    · subst q; exact Nat.le_max_left ..
    · exact Nat.le_trans (ih q) (Nat.le_max_right ..)
theorem tD_node (c : Str) (ch : List T) : tD (.node c ch) = .tup (.str c :: ch.map tD) := by rw [tD, tDs_map]
/-- a tree of a kind -/
inductive Ty (ts : List Trip) : Str → T → Prop
  | node {t : Trip} {ch : List T} : t ∈ ts → ch.length = t.2.2.length → (∀ (i : Nat) (p : Str) (c : T), t.2.2[i]? = some p → ch[i]? = some c → Ty ts p c) → Ty ts t.2.1 (.node t.1 ch)
theorem Ty.inv {ts : List Trip} {k c : Str} {ch : List T} (h : Ty ts k (.node c ch)) : ∃ t ∈ ts, c = t.1 ∧ k = t.2.1 ∧ ch.length = t.2.2.length ∧ ∀ (i : Nat) (p : Str) (c : T), t.2.2[i]? = some p → ch[i]? = some c → Ty ts p c := by
  cases h with
  | node tm hl hc => exact ⟨_, tm, rfl, rfl, hl, hc⟩
theorem prsD_map {α β : Type} (f : α → D) (g : β → D) (xs : List α) (ys : List β) : prsD (xs.map f) (ys.map g) = (xs.zip ys).map fun p => .tup [f p.1, g p.2] := by
  unfold prsD
  rw [List.zip_map, List.map_map]
  rfl
/-- a kind with a small tree: a constructor of at most one part, that part small too -/
inductive Ez (ts : List Trip) : Nat → Str → Prop
  | mk {n : Nat} {t : Trip} : t ∈ ts → t.2.2.length ≤ 1 → (∀ p ∈ t.2.2, Ez ts n p) → Ez ts (n + 1) t.2.1
theorem Ez.up {ts : List Trip} {n : Nat} {k : Str} (h : Ez ts n k) : ∀ m, n ≤ m → Ez ts m k := by
  induction h with
  | mk tm hl _ ih =>
    intro m hm
    cases m with
    | zero => omega
    | succ m => exact .mk tm hl fun p hp => ih p hp m (by omega)
theorem Ez.perm {ts us : List Trip} (s : ∀ t ∈ ts, t ∈ us) {n : Nat} {k : Str} (h : Ez ts n k) : Ez us n k := by
  induction h with
  | mk tm hl _ ih => exact .mk (s _ tm) hl ih
/-- .. as they are drawn -/
theorem ez_drawn {ts : List Trip} {kinds : List Str} (tk : ts.map (·.2.1) = kinds) (low : ∀ (j : Nat) (t : Trip), ts[j]? = some t → (∀ p ∈ t.2.2, p ∈ kinds.take j) ∧ t.2.2.length ≤ 1) : ∀ (j : Nat) (k : Str), kinds[j]? = some k → Ez ts (j + 1) k := by
  intro j
  induction j using Nat.strongRecOn with
  | ind j ih =>
    intro k e
    rw [← tk, List.getElem?_map] at e
    cases et : ts[j]? with
    | none => rw [et] at e; cases e
    | some t =>
      rw [et] at e
      cases e
      obtain ⟨h1, h2⟩ := low j t et
      refine .mk (List.mem_of_getElem? et) h2 fun p hp => ?_
      obtain ⟨i, hi⟩ := List.getElem?_of_mem (h1 p hp)
      rw [List.getElem?_take] at hi
      split at hi
      · rename_i hij
        exact (ih i hij p hi).up j (by omega)
      · cases hi
end GX

set_option Elab.async false
set_option linter.all false
set_option maxRecDepth 100000
set_option maxHeartbeats 4000000
/-! ### the keys of trees, their order -/
namespace GX
open PySem L2 PySem.Spec PyProof.Rows PySem.W
def kindOfC (ts : List Trip) (c : Str) : Str := ((ts.find? fun t => decide (t.1 = c)).map (·.2.1)).getD ""
/-- the place of a constructor among those of its kind -/
def rkT (ts : List Trip) (c : Str) : Nat := (consOf ts (kindOfC ts c)).idxOf c
theorem kindOfC_at {ts : List Trip} (nd : (ts.map (·.1)).Nodup) {t : Trip} (ht : t ∈ ts) : kindOfC ts t.1 = t.2.1 := by
  unfold kindOfC
  have : ts.find? (fun u => decide (u.1 = t.1)) = some t := by
    induction ts with
    | nil => cases ht
    | cons a ts ih =>
      rw [List.map_cons, List.nodup_cons] at nd
      rw [List.find?_cons]
      rcases List.mem_cons.mp ht with q | q
      · subst q
        rw [decide_eq_true rfl]
      · have : a.1 ≠ t.1 := fun e => nd.1 (e ▸ List.mem_map_of_mem q)
        rw [decide_eq_false this]
        exact ih nd.2 q
  rw [this]
  rfl
mutual
/-- as data -/
def kyD (ts : List Trip) : T → D
  | .node c ch => .tup [.int ((1 + tszs ch : Nat) : Int), .int ((rkT ts c : Nat) : Int), .lst (kyDs ts ch)]
def kyDs (ts : List Trip) : List T → List D
  | [] => []
  | t :: l => kyD ts t :: kyDs ts l
end
theorem kyDs_map (ts : List Trip) (l : List T) : kyDs ts l = l.map (kyD ts) := by
  induction l with
  | nil => rfl
  | cons t l ih => rw [kyDs, ih]; rfl
theorem kyD_node (ts : List Trip) (c : Str) (ch : List T) : kyD ts (.node c ch) = .tup [natD (1 + tszs ch), natD (rkT ts c), .lst (ch.map (kyD ts))] := by rw [kyD, kyDs_map]
abbrev kyP (ts : List Trip) (t : T) : PyData := toP (kyD ts t)
theorem kyP_node (ts : List Trip) (c : Str) (ch : List T) : kyP ts (.node c ch) = .tuple [.int ((1 + tszs ch : Nat) : Int), .int ((rkT ts c : Nat) : Int), .list (ch.map (kyP ts))] := by
  show toP (kyD ts (.node c ch)) = _
  rw [kyD_node]
  simp only [toP, toPs, toPs_map, List.map_map]
  rfl
mutual
theorem kyP_alike (ts : List Trip) : ∀ a b : T, alike (kyP ts a) (kyP ts b) = true
  | .node c ch, .node d dh => by
    rw [kyP_node, kyP_node]
    simp only [alike, alikeAll, Bool.and_true, Bool.true_and]
    exact kyPs_alike ts ch dh
theorem kyPs_alike (ts : List Trip) : ∀ a b : List T, alikeAll (a.map (kyP ts)) (b.map (kyP ts)) = true
  | [], _ => by rw [List.map_nil, alikeAll]
  | _ :: _, [] => by rw [List.map_nil, List.map_cons, alikeAll]
  | a :: as, b :: bs => by
    rw [List.map_cons, List.map_cons, alikeAll, kyP_alike ts a b, kyPs_alike ts as bs]
    rfl
end
/-- before -/
def ltT (ts : List Trip) (a b : T) : Bool := dataLt (kyP ts a) (kyP ts b)
theorem ltT_irrefl (ts : List Trip) (a : T) : ltT ts a a = false := lex_irrefl _
theorem ltT_trans {ts : List Trip} {a b c : T} (h : ltT ts a b = true) (k : ltT ts b c = true) : ltT ts a c = true := lex_trans _ _ _ h k
theorem ltT_neg {ts : List Trip} {a b c : T} (h : ltT ts a b = false) (k : ltT ts b c = false) : ltT ts a c = false := by
  cases e : ltT ts a c with
  | false => rfl
  | true =>
    rcases lex_negTrans _ (keyToks (kyP ts b)) _ e with q | q
    · rw [show ltT ts a b = true from q] at h; cases h
    · rw [show ltT ts b c = true from q] at k; cases k
/-- what compare answers -/
def wayT (ts : List Trip) (a b : T) : Int := (if ltT ts b a = true then 1 else 0) - (if ltT ts a b = true then 1 else 0)
theorem wayT_anti (ts : List Trip) (a b : T) : wayT ts b a = 0 - wayT ts a b := by unfold wayT; omega
/-- data equal: their tokens are, and back -/
theorem eqv_of_toks {x y : PyData} (al : alike x y = true) (e : keyToks x = keyToks y) : PyData.eqv x y = true := by
  cases h : PyData.eqv x y with
  | true => rfl
  | false =>
    have q := (toks_eqv x y al).2 h
    rw [e] at q
    have h1 := q [] [.inl 0]
    have h2 := q [.inl 0] []
    rw [lex_pre] at h1 h2
    rw [← h2] at h1
    have a1 : PyProof.Rows.lexLt itemOrd [] [(.inl 0 : Int ⊕ List Nat)] = true := rfl
    have a2 : PyProof.Rows.lexLt itemOrd [(.inl 0 : Int ⊕ List Nat)] [] = false := rfl
    rw [a1, a2] at h1
    cases h1
end GX

set_option Elab.async false
set_option linter.all false
set_option maxRecDepth 100000
set_option maxHeartbeats 4000000
/-! ### the order of trees: what it keeps -/
namespace GX
open PySem L2 PySem.Spec PyProof.Rows PySem.W
theorem mem_consOf {ts : List Trip} {t : Trip} (ht : t ∈ ts) : t.1 ∈ consOf ts t.2.1 := List.mem_map.mpr ⟨t, List.mem_filter.mpr ⟨ht, decide_eq_true rfl⟩, rfl⟩
theorem idx_inj {l : List Str} {a b : Str} (ha : a ∈ l) (hb : b ∈ l) (e : l.idxOf a = l.idxOf b) : a = b := by
  have h1 := List.idxOf_lt_length_iff.mpr ha
  have h2 := List.idxOf_lt_length_iff.mpr hb
  have e1 : l[l.idxOf a] = a := List.getElem_idxOf h1
  have e2 : l[l.idxOf b] = b := List.getElem_idxOf h2
  rw [← e1, ← e2]
  congr 1
theorem nd_trip {ts : List Trip} (nd : (ts.map (·.1)).Nodup) {t u : Trip} (ht : t ∈ ts) (hu : u ∈ ts) (e : t.1 = u.1) : t = u := by
  induction ts with
  | nil => cases ht
  | cons a ts ih =>
    rw [List.map_cons, List.nodup_cons] at nd
    rcases List.mem_cons.mp ht with q | q <;> rcases List.mem_cons.mp hu with z | z
    · rw [q, z]
    · subst q; exact absurd (e ▸ List.mem_map_of_mem z) nd.1
    · subst z; exact absurd (e ▸ List.mem_map_of_mem q) nd.1
    · exact ih nd.2 q z
theorem eqv_node {ts : List Trip} {c d : Str} {ch dh : List T} (e : PyData.eqv (kyP ts (.node c ch)) (kyP ts (.node d dh)) = true) :
    tszs ch = tszs dh ∧ rkT ts c = rkT ts d ∧ PyData.eqvAll (ch.map (kyP ts)) (dh.map (kyP ts)) = true := by
  rw [kyP_node, kyP_node] at e
  simp only [PyData.eqv, PyData.eqvAll, Bool.and_true, Bool.and_eq_true, beq_iff_eq] at e
  exact ⟨by omega, by omega, e.2.2⟩
mutual
/-- one key, one kind: one tree -/
theorem key_inj {ts : List Trip} (nd : (ts.map (·.1)).Nodup) : ∀ {k : Str} (a b : T), Ty ts k a → Ty ts k b → PyData.eqv (kyP ts a) (kyP ts b) = true → a = b
  | k, .node c ch, .node d dh, ha, hb, e => by
    obtain ⟨e1, e2, e3⟩ := eqv_node e
    obtain ⟨t, tm, rfl, rfl, hl, hc⟩ := ha.inv
    obtain ⟨u, um, rfl, ek, hl2, hc2⟩ := hb.inv
    have : t.1 = u.1 := by
      unfold rkT at e2
      rw [kindOfC_at nd tm, kindOfC_at nd um, ← ek] at e2
      exact idx_inj (mem_consOf tm) (ek ▸ mem_consOf um) e2
    have tu := nd_trip nd tm um this
    subst tu
    rw [keys_inj nd t.2.2 ch dh hl hl2 hc hc2 e3]
theorem keys_inj {ts : List Trip} (nd : (ts.map (·.1)).Nodup) : ∀ (ps : List Str) (as bs : List T), as.length = ps.length → bs.length = ps.length →
    (∀ (i : Nat) (p : Str) (c : T), ps[i]? = some p → as[i]? = some c → Ty ts p c) → (∀ (i : Nat) (p : Str) (c : T), ps[i]? = some p → bs[i]? = some c → Ty ts p c) → PyData.eqvAll (as.map (kyP ts)) (bs.map (kyP ts)) = true → as = bs
  | _, [], [], _, _, _, _, _ => rfl
  | _, [], b :: bs, _, _, _, _, e => by rw [List.map_nil, List.map_cons, PyData.eqvAll] at e; cases e
  | _, a :: as, [], _, _, _, _, e => by rw [List.map_nil, List.map_cons, PyData.eqvAll] at e; cases e
  | [], a :: as, b :: bs, hl, _, _, _, _ => by cases hl
  | p :: ps, a :: as, b :: bs, hl, hl2, h1, h2, e => by
    rw [List.map_cons, List.map_cons, PyData.eqvAll, Bool.and_eq_true] at e
    rw [key_inj nd a b (h1 0 p a rfl rfl) (h2 0 p b rfl rfl) e.1, keys_inj nd ps as bs (by simpa using hl) (by simpa using hl2) (fun i q c x y => h1 (i + 1) q c x y) (fun i q c x y => h2 (i + 1) q c x y) e.2]
end
/-- 0 just for equal trees -/
theorem wayT_zero {ts : List Trip} (nd : (ts.map (·.1)).Nodup) {k : Str} {a b : T} (ha : Ty ts k a) (hb : Ty ts k b) : wayT ts a b = 0 ↔ a = b := by
  constructor
  · intro h
    unfold wayT at h
    have : ltT ts a b = false ∧ ltT ts b a = false := by
      cases h1 : ltT ts a b with
      | false =>
        refine ⟨rfl, ?_⟩
        cases h2 : ltT ts b a with
        | false => rfl
        | true => rw [h1, h2] at h; simp at h
      | true =>
        cases h2 : ltT ts b a with
        | false => rw [h1, h2] at h; simp at h
        | true =>
          have := ltT_trans h1 h2
          rw [ltT_irrefl] at this
          cases this
    exact key_inj nd a b ha hb (eqv_of_toks (kyP_alike ts a b) (lex_total _ _ this.1 this.2))
  · intro h
    subst h
    unfold wayT
    rw [ltT_irrefl]
    rfl
theorem tsz_node (c : Str) (ch : List T) : tsz (.node c ch) = 1 + tszs ch := by rw [tsz]
/-- by size first -/
theorem ltT_size {ts : List Trip} {a b : T} (h : tsz a < tsz b) : ltT ts a b = true ∧ ltT ts b a = false := by
  cases a with
  | node c ch =>
    cases b with
    | node d dh =>
      rw [tsz_node, tsz_node] at h
      have one : ltT ts (.node c ch) (.node d dh) = true := by
        unfold ltT
        rw [kyP_node, kyP_node, dataLt_tuple, dataLt_all_no (by simp [alike]) (by simp [PyData.eqv]; omega), dataLt_int]
        exact decide_eq_true (by omega)
      refine ⟨one, ?_⟩
      cases e : ltT ts (.node d dh) (.node c ch) with
      | false => rfl
      | true =>
        have := ltT_trans one e
        rw [ltT_irrefl] at this
        cases this
theorem wayT_size {ts : List Trip} {a b : T} (h : tsz a < tsz b) : wayT ts a b = -1 := by
  obtain ⟨h1, h2⟩ := ltT_size (ts := ts) h
  unfold wayT
  rw [h1, h2]
  rfl
/-- children with one front and one back -/
theorem keys_mid {ts : List Trip} {a b : T} (hne : PyData.eqv (kyP ts a) (kyP ts b) = false) (back back' : List T) : ∀ pre : List T,
    PyProof.Rows.lexLt itemOrd (keyToksAll ((pre ++ a :: back).map (kyP ts))) (keyToksAll ((pre ++ b :: back').map (kyP ts))) = ltT ts a b
  | [] => by
    rw [List.nil_append, List.nil_append, List.map_cons, List.map_cons, dataLt_all_no (kyP_alike ts a b) hne]
    rfl
  | c :: pre => by
    rw [List.cons_append, List.cons_append, List.map_cons, List.map_cons, dataLt_all_yes (kyP_alike ts c c) ((toks_refl c))]
    exact keys_mid hne back back' pre
where
  toks_refl (c : T) : PyData.eqv (kyP ts c) (kyP ts c) = true := eqv_of_toks (kyP_alike ts c c) rfl
theorem tsz_pos (t : T) : 0 < tsz t := by cases t; rw [tsz]; omega
theorem tsz_mem {l : List T} {t : T} (h : t ∈ l) : tsz t ≤ tszs l := by
  induction l with
  | nil => cases h
  | cons a l ih =>
    rw [tszs]
    rcases List.mem_cons.mp h with q | q
    · subst q; omega
    · have := ih q; omega
theorem len_tszs (l : List T) : l.length ≤ tszs l := by
  induction l with
  | nil => exact Nat.le_refl _
  | cons a l ih =>
    have := tsz_pos a
    rw [tszs, List.length_cons]
    omega
/-- keys can be shown, compared -/
theorem kyD_ok (ts : List Trip) : ∀ (d : Nat) (t : T), tdp t ≤ d → okP (kyD ts t) = true ∧ (kyP ts t).depth ≤ 2 * d
  | 0, t, h => by cases t; rw [tdp] at h; omega
  | d + 1, .node c ch, h => by
    rw [tdp] at h
    have hc : ∀ u ∈ ch, okP (kyD ts u) = true ∧ (kyP ts u).depth ≤ 2 * d := fun u hu => kyD_ok ts d u (by have := tdps_le hu; omega)
    constructor
    · rw [kyD_node]
      simp only [okP, okPs, Bool.and_true, Bool.true_and, okPs_all, List.all_map]
      exact List.all_eq_true.mpr fun u hu => (hc u hu).1
    · rw [kyP_node]
      have : PyData.depthAll (ch.map (kyP ts)) ≤ 2 * d := by
        clear h
        induction ch with
        | nil => rw [List.map_nil, PyData.depthAll]; exact Nat.zero_le _
        | cons a ch ih =>
          rw [List.map_cons, PyData.depthAll]
          exact Nat.max_le.mpr ⟨(hc a (List.mem_cons_self ..)).2, ih fun u hu => hc u (List.mem_cons_of_mem _ hu)⟩
      simp only [PyData.depth, PyData.depthAll]
      omega
theorem kyP_some (ts : List Trip) (t : T) : toP (kyD ts t) ≠ .none := by
  cases t with
  | node c ch => rw [show toP (kyD ts (.node c ch)) = _ from kyP_node ts c ch]; exact fun h => nomatch h
end GX

set_option Elab.async false
set_option linter.all false
set_option maxRecDepth 100000
set_option maxHeartbeats 4000000
/-! ### small trees found -/
namespace GX
open PySem L2 PySem.Spec
def ltK (l : List (Str × T)) : List (Key × D) := l.map fun p => (Sum.inr p.1, tD p.2)
theorem ltK_in (l : List (Str × T)) (k : Str) : (dval (ltK l) (Sum.inr k)).isSome = decide (k ∈ l.map (·.1)) := by
  rw [dval_keys]
  refine decide_eq_decide.mpr ?_
  unfold ltK
  rw [List.map_map]
  constructor
  · intro h
    obtain ⟨p, hp, e⟩ := List.mem_map.mp h
    exact List.mem_map.mpr ⟨p, hp, Sum.inr.inj e⟩
  · intro h
    obtain ⟨p, hp, e⟩ := List.mem_map.mp h
    exact List.mem_map.mpr ⟨p, hp, by rw [← e]; rfl⟩
theorem ltK_at {l : List (Str × T)} (nd : (l.map (·.1)).Nodup) {k : Str} (h : k ∈ l.map (·.1)) : ∃ u, (k, u) ∈ l ∧ dval (ltK l) (Sum.inr k) = some (tD u) := by
  obtain ⟨p, hp, rfl⟩ := List.mem_map.mp h
  refine ⟨p.2, hp, ?_⟩
  have nd2 : (l.map fun p : Str × T => (Sum.inr p.1 : Key)).Nodup := by
    have := inr_nodup nd
    rwa [List.map_map] at this
  exact dval_at (fun p : Str × T => (Sum.inr p.1 : Key)) (fun p => tD p.2) l p hp nd2
theorem ltK_put {l : List (Str × T)} {k : Str} (u : T) (h : k ∉ l.map (·.1)) : dput (ltK l) (Sum.inr k) (tD u) = ltK (l ++ [(k, u)]) := by
  have e : dval (ltK l) (Sum.inr k) = none := by
    have := ltK_in l k
    rw [decide_eq_false h] at this
    exact Option.not_isSome_iff_eq_none.mp (by rw [this]; exact Bool.false_ne_true)
  rw [dput_new _ e]
  unfold ltK
  rw [List.map_append]
  rfl
structure SmallL (ts : List Trip) (l : List (Str × T)) : Prop where
  nd : (l.map (·.1)).Nodup
  all : ∀ p ∈ l, p.1 ∈ kindsOf ts ∧ Ty ts p.1 p.2 ∧ tsz p.2 ≤ l.length
theorem SmallL.nil {ts : List Trip} : SmallL ts [] := ⟨List.nodup_nil, fun p h => nomatch h⟩
theorem SmallL.few {ts : List Trip} {l : List (Str × T)} (s : SmallL ts l) : l.length ≤ (kindsOf ts).length := by
  have := s.nd.length_le_of_subset (l₂ := kindsOf ts) fun k hk => by
    obtain ⟨p, hp, rfl⟩ := List.mem_map.mp hk
    exact (s.all p hp).1
  rwa [List.length_map] at this
theorem SmallL.add {ts : List Trip} {l : List (Str × T)} (s : SmallL ts l) {t : Trip} (tm : t ∈ ts) (n : t.2.1 ∉ l.map (·.1)) {us : List T} (hl : us.length = t.2.2.length) (h1 : t.2.2.length ≤ 1)
    (hu : ∀ (i : Nat) (p : Str) (u : T), t.2.2[i]? = some p → us[i]? = some u → (p, u) ∈ l) : SmallL ts (l ++ [(t.2.1, .node t.1 us)]) := by
  refine ⟨?_, fun p hp => ?_⟩
  · rw [List.map_append]
    refine List.nodup_append.mpr ⟨s.nd, by simp, fun a ha b hb e => ?_⟩
    have : b = t.2.1 := by simpa using hb
    subst this
    exact n (e ▸ ha)
  · rw [List.length_append]
    rcases List.mem_append.mp hp with q | q
    · obtain ⟨a, b, c⟩ := s.all p q
      exact ⟨a, b, by show _ ≤ l.length + 1; omega⟩
    · rw [List.mem_singleton.mp q]
      refine ⟨(mem_kindsOf _ _).mpr ⟨t, tm, rfl⟩, .node tm hl fun i p c e1 e2 => (s.all _ (hu i p c e1 e2)).2.1, ?_⟩
      show tsz (.node t.1 us) ≤ l.length + 1
      rw [tsz_node]
      cases us with
      | nil => rw [tszs]; omega
      | cons u us =>
        cases us with
        | nil =>
          obtain ⟨p, ep⟩ : ∃ p, t.2.2[0]? = some p := ⟨_, List.getElem?_eq_getElem (by rw [← hl]; exact Nat.zero_lt_succ _)⟩
          have := (s.all _ (hu 0 p u ep rfl)).2.2
          rw [tszs, tszs]
          have e2 : tsz u ≤ l.length := this
          omega
        | cons v us =>
          rw [List.length_cons, List.length_cons] at hl
          omega
mutual
theorem tdp_le_tsz : ∀ t : T, tdp t ≤ tsz t
  | .node c ch => by
    have := tdps_le_tszs ch
    rw [tdp, tsz]
    omega
theorem tdps_le_tszs : ∀ l : List T, tdps l ≤ tszs l
  | [] => by rw [tdps, tszs]; exact Nat.le_refl _
  | t :: l => by
    have := tdp_le_tsz t
    have := tdps_le_tszs l
    rw [tdps, tszs]
    exact Nat.max_le.mpr ⟨by omega, by omega⟩
end
theorem tdps_max {l : List T} {n : Nat} (h : ∀ t ∈ l, tdp t ≤ n) : tdps l ≤ n := by
  induction l with
  | nil => rw [tdps]; exact Nat.zero_le _
  | cons a l ih =>
    rw [tdps]
    exact Nat.max_le.mpr ⟨h a (List.mem_cons_self ..), ih fun t ht => h t (List.mem_cons_of_mem _ ht)⟩
theorem tszs_max {l : List T} {n : Nat} (h : ∀ t ∈ l, tsz t ≤ n) : tszs l ≤ l.length * n := by
  induction l with
  | nil => rw [tszs]; exact Nat.zero_le _
  | cons a l ih =>
    have h1 := h a (List.mem_cons_self ..)
    have h2 := ih fun t ht => h t (List.mem_cons_of_mem _ ht)
    rw [tszs, List.length_cons, Nat.add_mul]
    omega
/-- nodes of a drawn tree of so great a depth -/
def mxT : Nat → Nat
  | 0 => 4
  | d + 1 => 1 + 3 * mxT d
end GX

set_option Elab.async false
set_option linter.all false
set_option maxRecDepth 100000
set_option maxHeartbeats 4000000
/-! ### one part exchanged; equal trees -/
namespace GX
open PySem L2 PySem.Spec PyProof.Rows PySem.W
theorem tszs_app (a b : List T) : tszs (a ++ b) = tszs a + tszs b := by
  induction a with
  | nil => rw [List.nil_append, tszs, Nat.zero_add]
  | cons x a ih => rw [List.cons_append, tszs, tszs, ih]; omega
theorem wayT_self (ts : List Trip) (a : T) : wayT ts a a = 0 := by unfold wayT; rw [ltT_irrefl]; rfl
theorem eqvAll_mid {ts : List Trip} {a b : T} (hne : PyData.eqv (kyP ts a) (kyP ts b) = false) (post : List T) : ∀ pre : List T, PyData.eqvAll ((pre ++ a :: post).map (kyP ts)) ((pre ++ b :: post).map (kyP ts)) = false
  | [] => by rw [List.nil_append, List.nil_append, List.map_cons, List.map_cons, PyData.eqvAll, hne]; rfl
  | c :: pre => by rw [List.cons_append, List.cons_append, List.map_cons, List.map_cons, PyData.eqvAll, eqvAll_mid hne post pre, Bool.and_false]
theorem ltT_mid {ts : List Trip} {c : Str} {a b : T} (hz : tsz a = tsz b) (hne : PyData.eqv (kyP ts a) (kyP ts b) = false) (pre post : List T) : ltT ts (.node c (pre ++ a :: post)) (.node c (pre ++ b :: post)) = ltT ts a b := by
  have e1 : tszs (pre ++ a :: post) = tszs (pre ++ b :: post) := by rw [tszs_app, tszs_app, tszs, tszs, hz]
  rw [ltT, kyP_node, kyP_node, e1, dataLt_tuple, dataLt_all_yes (by simp [alike]) (by simp [PyData.eqv]), dataLt_all_yes (by simp [alike]) (by simp [PyData.eqv])]
  rw [dataLt_all_no (by rw [alike]; exact kyPs_alike ts _ _) (by rw [PyData.eqv]; exact eqvAll_mid hne post pre), dataLt_list]
  exact keys_mid hne post post pre
theorem eqv_symm {ts : List Trip} {a b : T} (h : PyData.eqv (kyP ts a) (kyP ts b) = false) : PyData.eqv (kyP ts b) (kyP ts a) = false := by
  cases e : PyData.eqv (kyP ts b) (kyP ts a) with
  | false => rfl
  | true =>
    have := (toks_eqv _ _ (kyP_alike ts b a)).1 e
    rw [eqv_of_toks (kyP_alike ts a b) this.symm] at h
    cases h
/-- a part exchanged: as the parts -/
theorem wayT_part {ts : List Trip} (nd : (ts.map (·.1)).Nodup) {k c : Str} {a b : T} (ta : Ty ts k a) (tb : Ty ts k b) (pre post : List T) : wayT ts (.node c (pre ++ a :: post)) (.node c (pre ++ b :: post)) = wayT ts a b := by
  have sz : ∀ x : T, tsz (.node c (pre ++ x :: post)) = 1 + (tszs pre + (tsz x + tszs post)) := fun x => by rw [tsz_node, tszs_app, tszs]
  rcases Nat.lt_trichotomy (tsz a) (tsz b) with q | q | q
  · rw [wayT_size q, wayT_size (by rw [sz, sz]; omega)]
  · cases e : PyData.eqv (kyP ts a) (kyP ts b) with
    | true =>
      rw [key_inj nd a b ta tb e, wayT_self, wayT_self]
    | false =>
      unfold wayT
      rw [ltT_mid q e, ltT_mid q.symm (eqv_symm e)]
  · rw [wayT_anti ts b a, wayT_size q, wayT_anti ts (.node c (pre ++ b :: post)) (.node c (pre ++ a :: post)), wayT_size (by rw [sz, sz]; omega)]
mutual
theorem eqv_tD : ∀ a b : T, PyData.eqv (toP (tD a)) (toP (tD b)) = true → a = b
  | .node c ch, .node d dh, e => by
    rw [tD, tD, toP, toP, toPs, toPs, toP, toP, PyData.eqv, PyData.eqvAll, PyData.eqv, Bool.and_eq_true, beq_iff_eq] at e
    rw [e.1, eqv_tDs ch dh e.2]
theorem eqv_tDs : ∀ a b : List T, PyData.eqvAll (toPs (tDs a)) (toPs (tDs b)) = true → a = b
  | [], [], _ => rfl
  | [], _ :: _, e => by rw [tDs, tDs, toPs, toPs, PyData.eqvAll] at e; cases e
  | _ :: _, [], e => by rw [tDs, tDs, toPs, toPs, PyData.eqvAll] at e; cases e
  | a :: as, b :: bs, e => by
    rw [tDs, tDs, toPs, toPs, PyData.eqvAll, Bool.and_eq_true] at e
    rw [eqv_tD a b e.1, eqv_tDs as bs e.2]
end
mutual
theorem tD_fine {ts : List Trip} (g : Good isNm ts) : ∀ (t : T) (k : Str), Ty ts k t → Fine (tdp t) (10 * tsz t - 1) (tD t)
  | .node c ch, k, h => by
    obtain ⟨t, tm, rfl, rfl, hl, hc⟩ := h.inv
    have nm := (g.names t tm).1
    have b := tDs_fine g ch fun u hu => by
      obtain ⟨i, hi⟩ := List.getElem?_of_mem hu
      have hi2 := (List.getElem?_eq_some_iff.mp hi).1
      exact ⟨_, hc i _ u (List.getElem?_eq_getElem (by omega)) hi⟩
    rw [tD, tdp, tsz]
    refine (FineA.cons ((Fine.str (isNm_ok nm)).mono (Nat.zero_le _) (isNm_len nm)) b).tup.mono (by omega) (by omega)
theorem tDs_fine {ts : List Trip} (g : Good isNm ts) : ∀ l : List T, (∀ u ∈ l, ∃ k, Ty ts k u) → FineA (tdps l) (10 * tszs l) (tDs l)
  | [], _ => by rw [tDs]; exact .nil
  | a :: l, h => by
    obtain ⟨k, ha⟩ := h a (List.mem_cons_self ..)
    have h1 := tD_fine g a k ha
    have h2 := tDs_fine g l fun u hu => h u (List.mem_cons_of_mem _ hu)
    have := tsz_pos a
    rw [tDs, tdps, tszs]
    exact (FineA.cons (h1.mono (Nat.le_max_left ..) (Nat.le_refl _)) (h2.mono (Nat.le_max_right ..) (Nat.le_refl _))).mono (Nat.le_refl _) (by omega)
end
/-- == of trees -/
theorem eqv_iff {ts : List Trip} (g : Good isNm ts) {k : Str} {a : T} (ha : Ty ts k a) (b : T) : PyData.eqv (toP (tD a)) (toP (tD b)) = true ↔ a = b :=
  ⟨eqv_tD a b, fun e => e ▸ (tD_fine g a k ha).self⟩
theorem way_lt {ts : List Trip} {a b : T} (h : wayT ts a b < 1) : ltT ts b a = false := by
  cases e : ltT ts b a with
  | false => rfl
  | true =>
    have : ltT ts a b = false := by
      cases f : ltT ts a b with
      | false => rfl
      | true =>
        have := ltT_trans e f
        rw [ltT_irrefl] at this
        cases this
    unfold wayT at h
    rw [e, this] at h
    simp at h
theorem way_gt {ts : List Trip} {a b : T} (h : 0 < wayT ts a b) : ltT ts b a = true := by
  cases e : ltT ts b a with
  | true => rfl
  | false =>
    unfold wayT at h
    rw [e] at h
    split at h <;> simp at h <;> omega
theorem way_trans {ts : List Trip} {a b c : T} (h : wayT ts a b < 1) (k : wayT ts b c < 1) : ¬ (0 < wayT ts a c) := fun z => by
  have := ltT_neg (way_lt k) (way_lt h)
  rw [way_gt z] at this
  cases this
theorem eqv_dec {ts : List Trip} (g : Good isNm ts) {k : Str} {a b : T} (ha : Ty ts k a) (hb : Ty ts k b) : PyData.eqv (toP (tD a)) (toP (tD b)) = decide (wayT ts a b = 0) := by
  cases e : PyData.eqv (toP (tD a)) (toP (tD b)) with
  | true => exact (decide_eq_true ((wayT_zero g.nd ha hb).mpr ((eqv_iff g ha b).mp e))).symm
  | false =>
    refine (decide_eq_false fun z => ?_).symm
    rw [(eqv_iff g ha b).mpr ((wayT_zero g.nd ha hb).mp z)] at e
    cases e
theorem rng_one (m : Nat) : rngD 1 1 m = (List.range m).map fun i => natD (i + 1) := by
  unfold rngD
  refine List.map_congr_left fun i _ => ?_
  show D.int _ = D.int _
  congr 1
  omega
/-- a tree with one part exchanged -/
theorem ty_part {ts : List Trip} {t : Trip} {ch : List T} {i : Nat} {x f : T} (tm : t ∈ ts) (hl : ch.length = t.2.2.length) (hc : ∀ (i : Nat) (p : Str) (c : T), t.2.2[i]? = some p → ch[i]? = some c → Ty ts p c) (hi : i < ch.length)
    (hf : ∀ p, t.2.2[i]? = some p → Ty ts p f) : Ty ts t.2.1 (.node t.1 (ch.take i ++ f :: ch.drop (i + 1))) := by
  have e : ch.take i ++ f :: ch.drop (i + 1) = ch.set i f := by rw [List.set_eq_take_append_cons_drop, if_pos hi]
  rw [e]
  refine .node tm (by rw [List.length_set]; exact hl) fun j p c ep ec => ?_
  by_cases q : i = j
  · subst q
    rw [List.getElem?_set_self hi] at ec
    cases ec
    exact hf p ep
  · rw [List.getElem?_set_ne q] at ec
    exact hc j p c ep ec
end GX

set_option Elab.async false
set_option linter.all false
set_option maxRecDepth 100000
set_option maxHeartbeats 4000000
namespace Toy
open PySem L2 GX PySem.Spec TL
def top (i : Nat) : Stmt := PySem.Challenge.pw_fewvouch_k08_whole_the_order_of_trees.main.body.getD i (.Pass ⟨0, 0, 0, 0⟩)
/-! ### the defs of the text, by their places -/
abbrev s__law_source : Stmt := top 29
abbrev s__law_draw : Stmt := top 30
abbrev s__law_of : Stmt := top 31
abbrev s__law_mixed : Stmt := top 32
abbrev s__law_names : Stmt := top 33
abbrev s__law_word : Stmt := top 41
abbrev s_is_name : Stmt := top 24
abbrev s_need_name : Stmt := top 25
abbrev s_finite_kinds : Stmt := top 26
abbrev s_Signature___init__ : Stmt := inClass (top 27) 0
abbrev s_Signature_declare : Stmt := inClass (top 27) 1
abbrev s_Signature_need_bounds : Stmt := inClass (top 27) 2
abbrev s_Signature_triples : Stmt := inClass (top 27) 6
abbrev s_Signature_kinds : Stmt := inClass (top 27) 7
abbrev s_Signature_need_kind : Stmt := inClass (top 27) 8
abbrev s_Signature_has : Stmt := inClass (top 27) 10
abbrev s_Signature_need_constructor : Stmt := inClass (top 27) 11
abbrev s_Signature_kind_of : Stmt := inClass (top 27) 12
abbrev s_Signature_parts : Stmt := inClass (top 27) 13
abbrev s__law_signature : Stmt := top 35
abbrev s__law_made : Stmt := top 40
abbrev s_Signature_rank : Stmt := inClass (top 27) 14
abbrev s_kind_within : Stmt := top 13
abbrev s_size : Stmt := top 14
abbrev s_check_tree : Stmt := top 15
abbrev s_tree_key : Stmt := top 16
abbrev s_compare : Stmt := top 17
abbrev s__law_kinds : Stmt := top 34
abbrev s__law_of_kind : Stmt := top 36
abbrev s__law_kind_of : Stmt := top 37
abbrev s__law_least : Stmt := top 38
abbrev s__law_tree : Stmt := top 39
abbrev s_law : Stmt := top 42
/-- where each def and class stands -/
structure Env where
  f__law_source : Addr
  d__law_source : FuncData
  f__law_draw : Addr
  d__law_draw : FuncData
  f__law_of : Addr
  d__law_of : FuncData
  f__law_mixed : Addr
  d__law_mixed : FuncData
  f__law_names : Addr
  d__law_names : FuncData
  f__law_word : Addr
  d__law_word : FuncData
  f_is_name : Addr
  d_is_name : FuncData
  f_need_name : Addr
  d_need_name : FuncData
  f_finite_kinds : Addr
  d_finite_kinds : FuncData
  f_Signature___init__ : Addr
  d_Signature___init__ : FuncData
  f_Signature_declare : Addr
  d_Signature_declare : FuncData
  f_Signature_need_bounds : Addr
  d_Signature_need_bounds : FuncData
  f_Signature_triples : Addr
  d_Signature_triples : FuncData
  f_Signature_kinds : Addr
  d_Signature_kinds : FuncData
  f_Signature_need_kind : Addr
  d_Signature_need_kind : FuncData
  f_Signature_has : Addr
  d_Signature_has : FuncData
  f_Signature_need_constructor : Addr
  d_Signature_need_constructor : FuncData
  f_Signature_kind_of : Addr
  d_Signature_kind_of : FuncData
  f_Signature_parts : Addr
  d_Signature_parts : FuncData
  f__law_signature : Addr
  d__law_signature : FuncData
  f__law_made : Addr
  d__law_made : FuncData
  f_Signature_rank : Addr
  d_Signature_rank : FuncData
  f_kind_within : Addr
  d_kind_within : FuncData
  f_size : Addr
  d_size : FuncData
  f_check_tree : Addr
  d_check_tree : FuncData
  f_tree_key : Addr
  d_tree_key : FuncData
  f_compare : Addr
  d_compare : FuncData
  f__law_kinds : Addr
  d__law_kinds : FuncData
  f__law_of_kind : Addr
  d__law_of_kind : FuncData
  f__law_kind_of : Addr
  d__law_kind_of : FuncData
  f__law_least : Addr
  d__law_least : FuncData
  f__law_tree : Addr
  d__law_tree : FuncData
  C_Signature : Addr
/-- what the top has left -/
structure Txt (K : PySem.W.Frag) (mg : Str → Option Value) (e : Env) : Prop where
  F__law_source : Fun K "_law_source" "_law_source" s__law_source e.f__law_source e.d__law_source
  b__law_source : Binds K e.d__law_source ["_law_script"] []
  g__law_source : mg "_law_source" = some (.ref e.f__law_source)
  F__law_draw : Fun K "_law_draw" "_law_draw" s__law_draw e.f__law_draw e.d__law_draw
  b__law_draw : Binds K e.d__law_draw ["_law_src", "_law_many"] []
  g__law_draw : mg "_law_draw" = some (.ref e.f__law_draw)
  F__law_of : Fun K "_law_of" "_law_of" s__law_of e.f__law_of e.d__law_of
  b__law_of : Binds K e.d__law_of ["_law_src", "_law_some"] []
  g__law_of : mg "_law_of" = some (.ref e.f__law_of)
  F__law_mixed : Fun K "_law_mixed" "_law_mixed" s__law_mixed e.f__law_mixed e.d__law_mixed
  b__law_mixed : Binds K e.d__law_mixed ["_law_src", "_law_things"] []
  g__law_mixed : mg "_law_mixed" = some (.ref e.f__law_mixed)
  F__law_names : Fun K "_law_names" "_law_names" s__law_names e.f__law_names e.d__law_names
  b__law_names : Binds K e.d__law_names ["_law_src", "_law_many"] []
  g__law_names : mg "_law_names" = some (.ref e.f__law_names)
  F__law_word : Fun K "_law_word" "_law_word" s__law_word e.f__law_word e.d__law_word
  b__law_word : Binds K e.d__law_word ["_law_src", "_law_many"] []
  g__law_word : mg "_law_word" = some (.ref e.f__law_word)
  F_is_name : Fun K "is_name" "is_name" s_is_name e.f_is_name e.d_is_name
  b_is_name : Binds K e.d_is_name ["text"] []
  g_is_name : mg "is_name" = some (.ref e.f_is_name)
  F_need_name : Fun K "need_name" "need_name" s_need_name e.f_need_name e.d_need_name
  b_need_name : Binds K e.d_need_name ["text"] []
  g_need_name : mg "need_name" = some (.ref e.f_need_name)
  F_finite_kinds : Fun K "finite_kinds" "finite_kinds" s_finite_kinds e.f_finite_kinds e.d_finite_kinds
  b_finite_kinds : Binds K e.d_finite_kinds ["triples"] []
  g_finite_kinds : mg "finite_kinds" = some (.ref e.f_finite_kinds)
  F_Signature___init__ : Fun K "__init__" "Signature.__init__" s_Signature___init__ e.f_Signature___init__ e.d_Signature___init__
  b_Signature___init__ : Binds K e.d_Signature___init__ ["self", "constructors"] []
  F_Signature_declare : Fun K "declare" "Signature.declare" s_Signature_declare e.f_Signature_declare e.d_Signature_declare
  b_Signature_declare : Binds K e.d_Signature_declare ["self", "constructor", "kind", "parts"] []
  m_Signature_declare : Meth K e.C_Signature "declare" e.f_Signature_declare
  F_Signature_need_bounds : Fun K "need_bounds" "Signature.need_bounds" s_Signature_need_bounds e.f_Signature_need_bounds e.d_Signature_need_bounds
  b_Signature_need_bounds : Binds K e.d_Signature_need_bounds ["self"] []
  m_Signature_need_bounds : Meth K e.C_Signature "need_bounds" e.f_Signature_need_bounds
  F_Signature_triples : Fun K "triples" "Signature.triples" s_Signature_triples e.f_Signature_triples e.d_Signature_triples
  b_Signature_triples : Binds K e.d_Signature_triples ["self"] []
  m_Signature_triples : Meth K e.C_Signature "triples" e.f_Signature_triples
  F_Signature_kinds : Fun K "kinds" "Signature.kinds" s_Signature_kinds e.f_Signature_kinds e.d_Signature_kinds
  b_Signature_kinds : Binds K e.d_Signature_kinds ["self"] []
  m_Signature_kinds : Meth K e.C_Signature "kinds" e.f_Signature_kinds
  F_Signature_need_kind : Fun K "need_kind" "Signature.need_kind" s_Signature_need_kind e.f_Signature_need_kind e.d_Signature_need_kind
  b_Signature_need_kind : Binds K e.d_Signature_need_kind ["self", "kind"] []
  m_Signature_need_kind : Meth K e.C_Signature "need_kind" e.f_Signature_need_kind
  F_Signature_has : Fun K "has" "Signature.has" s_Signature_has e.f_Signature_has e.d_Signature_has
  b_Signature_has : Binds K e.d_Signature_has ["self", "constructor"] []
  m_Signature_has : Meth K e.C_Signature "has" e.f_Signature_has
  F_Signature_need_constructor : Fun K "need_constructor" "Signature.need_constructor" s_Signature_need_constructor e.f_Signature_need_constructor e.d_Signature_need_constructor
  b_Signature_need_constructor : Binds K e.d_Signature_need_constructor ["self", "constructor"] []
  m_Signature_need_constructor : Meth K e.C_Signature "need_constructor" e.f_Signature_need_constructor
  F_Signature_kind_of : Fun K "kind_of" "Signature.kind_of" s_Signature_kind_of e.f_Signature_kind_of e.d_Signature_kind_of
  b_Signature_kind_of : Binds K e.d_Signature_kind_of ["self", "constructor"] []
  m_Signature_kind_of : Meth K e.C_Signature "kind_of" e.f_Signature_kind_of
  F_Signature_parts : Fun K "parts" "Signature.parts" s_Signature_parts e.f_Signature_parts e.d_Signature_parts
  b_Signature_parts : Binds K e.d_Signature_parts ["self", "constructor"] []
  m_Signature_parts : Meth K e.C_Signature "parts" e.f_Signature_parts
  F__law_signature : Fun K "_law_signature" "_law_signature" s__law_signature e.f__law_signature e.d__law_signature
  b__law_signature : Binds K e.d__law_signature ["_law_src", "_law_names_here", "_law_most_kinds", "_law_most_more", "_law_most_parts"] []
  g__law_signature : mg "_law_signature" = some (.ref e.f__law_signature)
  F__law_made : Fun K "_law_made" "_law_made" s__law_made e.f__law_made e.d__law_made
  b__law_made : Binds K e.d__law_made ["_law_src", "_law_triples"] []
  g__law_made : mg "_law_made" = some (.ref e.f__law_made)
  F_Signature_rank : Fun K "rank" "Signature.rank" s_Signature_rank e.f_Signature_rank e.d_Signature_rank
  b_Signature_rank : Binds K e.d_Signature_rank ["self", "constructor"] []
  m_Signature_rank : Meth K e.C_Signature "rank" e.f_Signature_rank
  F_kind_within : Fun K "kind_within" "kind_within" s_kind_within e.f_kind_within e.d_kind_within
  b_kind_within : Binds K e.d_kind_within ["signature", "tree", "depth"] []
  g_kind_within : mg "kind_within" = some (.ref e.f_kind_within)
  F_size : Fun K "size" "size" s_size e.f_size e.d_size
  b_size : Binds K e.d_size ["tree"] []
  g_size : mg "size" = some (.ref e.f_size)
  F_check_tree : Fun K "check_tree" "check_tree" s_check_tree e.f_check_tree e.d_check_tree
  b_check_tree : Binds K e.d_check_tree ["signature", "tree"] []
  g_check_tree : mg "check_tree" = some (.ref e.f_check_tree)
  F_tree_key : Fun K "tree_key" "tree_key" s_tree_key e.f_tree_key e.d_tree_key
  b_tree_key : Binds K e.d_tree_key ["signature", "tree"] []
  g_tree_key : mg "tree_key" = some (.ref e.f_tree_key)
  F_compare : Fun K "compare" "compare" s_compare e.f_compare e.d_compare
  b_compare : Binds K e.d_compare ["signature", "one", "other"] []
  g_compare : mg "compare" = some (.ref e.f_compare)
  F__law_kinds : Fun K "_law_kinds" "_law_kinds" s__law_kinds e.f__law_kinds e.d__law_kinds
  b__law_kinds : Binds K e.d__law_kinds ["_law_triples"] []
  g__law_kinds : mg "_law_kinds" = some (.ref e.f__law_kinds)
  F__law_of_kind : Fun K "_law_of_kind" "_law_of_kind" s__law_of_kind e.f__law_of_kind e.d__law_of_kind
  b__law_of_kind : Binds K e.d__law_of_kind ["_law_triples", "_law_kind"] []
  g__law_of_kind : mg "_law_of_kind" = some (.ref e.f__law_of_kind)
  F__law_kind_of : Fun K "_law_kind_of" "_law_kind_of" s__law_kind_of e.f__law_kind_of e.d__law_kind_of
  b__law_kind_of : Binds K e.d__law_kind_of ["_law_triples", "_law_constructor"] []
  g__law_kind_of : mg "_law_kind_of" = some (.ref e.f__law_kind_of)
  F__law_least : Fun K "_law_least" "_law_least" s__law_least e.f__law_least e.d__law_least
  b__law_least : Binds K e.d__law_least ["_law_triples"] []
  g__law_least : mg "_law_least" = some (.ref e.f__law_least)
  F__law_tree : Fun K "_law_tree" "_law_tree" s__law_tree e.f__law_tree e.d__law_tree
  b__law_tree : Binds K e.d__law_tree ["_law_src", "_law_triples", "_law_kind", "_law_depth"] []
  g__law_tree : mg "_law_tree" = some (.ref e.f__law_tree)
  g_Signature : mg "Signature" = some (.ref e.C_Signature)
  c_Signature : Cls K e.C_Signature
  M_Signature : Mk K e.C_Signature e.f_Signature___init__
  a_Signature_entries : NoAttr K e.C_Signature "entries"
  a_Signature_grouped : NoAttr K e.C_Signature "grouped"
  g_LONGEST_NAME : ∃ u, mg "LONGEST_NAME" = some (.int 8 u)
  g_LETTERS : ∃ u, mg "LETTERS" = some (.str alphabet u)
  g_MOST_KINDS : ∃ u, mg "MOST_KINDS" = some (.int 4 u)
  g_MOST_CONSTRUCTORS : ∃ u, mg "MOST_CONSTRUCTORS" = some (.int 6 u)
  g_MOST_PARTS : ∃ u, mg "MOST_PARTS" = some (.int 3 u)
  g_MOST_NODES : ∃ u, mg "MOST_NODES" = some (.int 300 u)
  g_MOST_DEPTH : ∃ u, mg "MOST_DEPTH" = some (.int 60 u)
  n_int : mg "int" = none
  n_len : mg "len" = none
  n_list : mg "list" = none
  n_range : mg "range" = none
  n_all : mg "all" = none
  n_any : mg "any" = none
  n_tuple : mg "tuple" = none
  n_min : mg "min" = none
  n_sum : mg "sum" = none
  n_isinstance : mg "isinstance" = none
  n_str : mg "str" = none
  n_zip : mg "zip" = none
/-! ### one step of a reading -/
local macro_rules | `(tactic| walk_at "r1") => `(tactic| with_reducible first
  | refine r_seq ?_ | refine r_asg ?_ | refine r_name ?_
  | refine r_c ?_ | refine r_op ?_ | refine r_un ?_ | refine r_I0 ?_ | refine r_U ?_
  | refine r_ifS ?_ | refine r_if ?_ | refine r_test ?_ | refine r_B ?_
  | refine r_and ?_ | refine r_or ?_ | refine r_not ?_ | refine r_bl ?_ | refine r_ret ?_
  | refine r_drop ?_ | refine r_nil ?_ | refine r_cons ?_ | refine r_CB ?_ | refine r_call ?_
  | refine r_int ?_ | refine r_tup ?_ | refine r_lst ?_ | refine r_andV ?_ | refine r_chain ?_
  | refine r_sub ?_ | refine r_next ?_ | refine r_for ?_ | refine r_lc ?_ | refine r_iList ?_
  | refine r_iTup ?_ | refine r_iStr ?_ | refine r_its ?_ | refine r_rng1 ?_ | refine r_zip ?_
  | refine r_enum ?_ | refine r_sl ?_ | refine r_part ?_ | refine r_prt ?_ | refine r_nopart ?_
  | refine r_yes ?_ | refine r_M1 ?_ | refine r_M0 ?_ | refine r_isS ?_ | refine r_BM ?_ | refine r_BM0 ?_
  | refine r_fld ?_ | refine r_sfld ?_ | refine r_meth ?_ | refine r_make ?_ | refine r_din ?_ | refine r_dnin ?_ | refine r_dget ?_
  | refine r_dput ?_ | refine r_gcons ?_ | refine r_gnil ?_ | refine r_iVals ?_ | refine r_iItems ?_ | refine r_iKeys ?_ | refine r_par ?_ | refine r_pr ?_ | refine r_min2 ?_ | refine r_dsetd ?_)
local macro_rules | `(tactic| walk_at "rv") => `(tactic| ((with_reducible refine' r_var ?hv ?_); (case hv => rfl)))
local macro_rules | `(tactic| walk_at "sq") => `(tactic| first
  | assumption | exact SqL.of (by assumption) | exact SqT.of (by assumption) | exact SqL.of upd_same | exact SqT.of upd_same
  | ((refine' sq_upd ?hn ?hh); (case hn => assumption); (case hh => walk_at "sq"))
  | ((refine' sqT_upd ?hn ?hh); (case hn => assumption); (case hh => walk_at "sq")))
local macro_rules | `(tactic| walk_at "ne") => `(tactic| first
  | assumption | exact Ne.symm (by assumption) | exact ne_of_none (by assumption) (by assumption) | exact (ne_of_none (by assumption) (by assumption)).symm)
local macro_rules | `(tactic| walk_at "hp") => `(tactic| first
  | assumption | exact upd_same
  | ((refine' at_upd ?hn ?hh); (case hn => assumption); (case hh => walk_at "hp"))
  | ((refine' at_ne ?hn ?hh); (case hn => walk_at "ne"); (case hh => walk_at "hp")))
local macro_rules | `(tactic| walk_at "rx") => `(tactic| first
  | ((with_reducible refine' r_listD ?hs ?_); (case hs => walk_at "hp"))
  | ((with_reducible refine' r_lenD ?hs ?_); (case hs => walk_at "hp"))
  | ((with_reducible refine' r_lockE ?hs ?hm ?_); (case hs => walk_at "hp"); (case hm => exact True.intro))
  | ((with_reducible refine' r_ixL ?hs ?he ?_); (case hs => walk_at "sq"); (case he => first | rfl | exact atI_nat (by assumption) | exact atI_eq (by assumption) (by omega)))
  | ((with_reducible refine' r_ixT ?hs ?he ?_); (case hs => walk_at "sq"); (case he => first | rfl | exact atI_nat (by assumption) | exact atI_eq (by assumption) (by omega)))
  | ((with_reducible refine' r_setL ?hs ?he ?_); (case hs => first | assumption | exact upd_same); (case he => first | rfl | exact atI_nat (by assumption) | exact atI_eq (by assumption) (by omega)))
  | ((with_reducible refine' r_slL ?hs ?_); (case hs => walk_at "sq"))
  | ((with_reducible refine' r_itl ?hs ?_); (case hs => walk_at "sq"))
  | ((with_reducible refine' r_itt ?hs ?_); (case hs => walk_at "sq"))
  | ((with_reducible refine r_rg1 ?hs ?_); (case hs => constructor <;> omega))
  | ((with_reducible refine r_I ?hs ?_); (case hs => first | assumption | (show (0 : Int) < _; omega) | exact Or.inr ⟨by decide, by decide⟩ | exact Or.inl ⟨by decide, by decide⟩ | (refine Or.inl ⟨?_, ?_⟩ <;> omega) | exact ⟨by decide, by decide⟩ | exact ⟨by decide, by decide, by decide⟩))
  | ((with_reducible refine' r_list_of ?hs ?_); (case hs => walk_at "sq"))
  | ((with_reducible refine' r_list_ofT ?hs ?_); (case hs => walk_at "sq"))
  | ((with_reducible refine' r_lenQ ?hs ?_); (case hs => walk_at "sq"))
  | ((with_reducible refine' r_lenQT ?hs ?_); (case hs => walk_at "sq"))
  | ((with_reducible refine' r_listOf ?hs ?_); (case hs => walk_at "sq"))
  | ((with_reducible refine' r_listOfT ?hs ?_); (case hs => walk_at "sq"))
  | ((with_reducible refine' r_tupOfT ?hs ?_); (case hs => walk_at "sq"))
  | ((with_reducible refine' r_tupOfL ?hs ?_); (case hs => walk_at "sq"))
  | ((with_reducible refine' r_ixsL ?hs ?he ?_); (case hs => walk_at "sq"); (case he => first | rfl | exact atI_nat (by assumption) | exact atI_eq (by assumption) (by omega)))
  | ((with_reducible refine' r_ixsT ?hs ?he ?_); (case hs => walk_at "sq"); (case he => first | rfl | exact atI_nat (by assumption) | exact atI_eq (by assumption) (by omega)))
  | ((with_reducible refine' r_in ?hs ?hx ?ha ?_); (case hs => walk_at "sq"); (case hx => rfl); (case ha => first | assumption | exact flat_strs _))
  | ((with_reducible refine' r_inT ?hs ?hx ?ha ?_); (case hs => walk_at "sq"); (case hx => rfl); (case ha => first | assumption | exact flat_strs _))
  | ((with_reducible refine' r_app ?hs ?hz ?_); (case hs => walk_at "hp"); (case hz => first | assumption | omega | (simp only [List.length_map, List.length_append, List.length_cons, List.length_nil]; omega)))
  | ((with_reducible refine' r_insert ?hs ?hz ?h0 ?_); (case hs => walk_at "hp"); (case hz => first | assumption | omega); (case h0 => constructor <;> omega))
  | ((with_reducible refine r_size ?hs ?_); (case hs => first | (simp only [List.length_cons, List.length_nil]; omega) | decide))
  | ((with_reducible refine' r_tyL ?hs ?_); (case hs => walk_at "sq"))
  | ((with_reducible refine r_addS ?hs ?_); (case hs => first | assumption | omega | (simp only [strLen_append]; omega)))
  | ((with_reducible refine r_lenS ?hs ?_); (case hs => first | assumption | omega | (simp only [strLen_append]; omega)))
  | ((with_reducible refine' r_slS ?hs ?_); (case hs => first | assumption | (refine Nat.le_trans ?_ (by decide : 1000000 ≤ sizeLine); omega)))
  | ((with_reducible refine' r_fldA ?ho ?hc ?hn ?hl ?_); (case ho => walk_at "hp"); (case hc => assumption); (case hn => assumption); (case hl => first | assumption | exact fl_entries _ _ | exact fl_grouped _ _))
  | ((with_reducible refine' r_sfldA ?ho ?hc ?hn ?hl ?_); (case ho => walk_at "hp"); (case hc => assumption); (case hn => assumption); (case hl => first | decide | exact (show (1:Nat) < 1000 by decide) | exact (show (2:Nat) < 1000 by decide) | exact (show (3:Nat) < 1000 by decide) | exact (show (4:Nat) < 1000 by decide)))
  | ((with_reducible refine' r_methA ?ho ?hl ?_); (case ho => walk_at "hp"); (case hl => first | assumption | exact fl_no _ _ (by decide +kernel) (by decide +kernel) | rfl))
  | ((with_reducible refine' r_inK ?hs ?_); (case hs => walk_at "hp"))
  | ((with_reducible refine' r_getK ?hs ?hv ?_); (case hs => walk_at "hp"); (case hv => assumption))
  | ((with_reducible refine' r_gtup ?hs ?hl ?_); (case hs => walk_at "sq"); (case hl => rfl))
  | ((with_reducible refine' r_isD ?hs ?_); (case hs => walk_at "hp"))
  | ((with_reducible refine' r_putK ?hs ?hl ?_); (case hs => walk_at "hp"); (case hl => first | assumption | omega | (simp only [List.length_map]; omega)))
  | ((with_reducible refine' r_dwalk ?hs ?_); (case hs => walk_at "hp"))
  | ((with_reducible refine r_eq ?hs ?_); (case hs => rfl))
  | ((with_reducible refine r_ne ?hs ?_); (case hs => rfl)))
local macro_rules | `(tactic| walk_at "rd") => `(tactic| repeat' (first | walk_at "r1" | walk_at "rv" | walk_at "rx"))

/-! ### the law's own source of drawn numbers -/
section
variable {P : Program} {w : World} {K : PySem.W.Frag} {mg : Str → Option Value} {base : Heap} {e : Env}
def spSource (K : PySem.W.Frag) : Sp := fun vs H Q _ => ∃ (a : Addr) (ns : List Int),
  vs = [.ref a] ∧ SqL K H a (ns.map V.int) ∧ ∀ p la H', H p = none → Same H H' → Src H' p la → Q (.ref p) H'
def spDraw : Sp := fun vs H Q _ => ∃ (a la : Addr) (m : Int), vs = [.ref a, .int m] ∧ 0 < m ∧
  m < 2 ^ 200 ∧ Src H a la ∧ ∀ j H', 0 ≤ j → j < m → Src H' a la → But a H H' → Q (.int j) H'
theorem sc__law_source : FnScope ["_law_script", "_law_start", "_law_cell"] ["_law_script"] (defScope s__law_source) :=
  ⟨rfl, rfl, rfl, by decide +kernel, rfl, by decide +kernel, by decide +kernel⟩
theorem sc__law_draw : FnScope ["_law_src", "_law_many", "_law_cell", "_law_digit", "_law_base9", "_law_later9"] ["_law_src", "_law_many"] (defScope s__law_draw) :=
  ⟨rfl, rfl, rfl, by decide +kernel, rfl, by decide +kernel, by decide +kernel⟩
theorem cut_ints (ns : List Int) (lo hi : Option Int) : ∃ ms : List Int, cutV (ns.map V.int) lo hi = ms.map V.int := by
  refine ⟨(ns.drop (HT.sIx ns.length 0 lo)).take (HT.sIx ns.length ns.length hi - HT.sIx ns.length 0 lo), ?_⟩
  unfold cutV
  rw [List.length_map, List.map_take, List.map_drop]
theorem len1 {vs : List V} {x : V} (h : vs = [x]) : vs.length = 1 := by rw [h]; rfl
theorem len2 {vs : List V} {x y : V} (h : vs = [x, y]) : vs.length = 2 := by rw [h]; rfl

theorem ok__law_source (T : Txt K mg e) : FnG P w K mg base CX0 1 e.f__law_source e.d__law_source ["_law_script"] (spSource K) := by
  refine okG T.F__law_source sc__law_source (fun vs H Q E h => ?_) (fun cdv A outer s H vs Q E hG hr h => ?_)
  · obtain ⟨a, ns, rfl, _⟩ := h
    rfl
  · obtain ⟨a, ns, rfl, hS, k⟩ := h
    refine ⟨_, (pss_cons (ps_set (i := 1) sc__law_source.nd rfl (by first | exact Or.inl rfl | exact Or.inr rfl) pe_int)
  (pss_cons (ps_for PassesOwn.never rfl (pi_listK (K := K) rfl (pe_slice (sl_listK (K := K) rfl) (pv 0) po_none (po_some pe_int))) (pg_name (i := 2) sc__law_source.nd rfl (by first | exact Or.inl rfl | exact Or.inr rfl))
    (pss_one (ps_set (i := 1) sc__law_source.nd rfl (by first | exact Or.inl rfl | exact Or.inr rfl) (pe_op op_mod (pe_callTy call_int1 (by rfl) T.n_int (by decide +kernel) (pa_cons (pe_op op_add (pe_op op_add (pe_op op_mul (pv 1) pe_int) (pe_op op_mod (pe_callTy call_int1 (by rfl) T.n_int (by decide +kernel) (pa_cons (pv 2) pa_nil)) pe_int)) pe_int) pa_nil)) pe_int))))
  (pss_one (ps_ret (pe_lst (pa_cons (pe_callTy (call_listK (K := K) rfl) (by rfl) T.n_list (by decide +kernel) (pa_cons (pe_slice (sl_listK (K := K) rfl) (pv 0) po_none (po_some pe_int)) pa_nil)) (pa_cons pe_int (pa_cons pe_int (pa_cons (pv 1) (pa_cons pe_int pa_nil)))))))))), ?_⟩
    try dsimp only [cxOf, Cx.nox, Cx.wish]
    walk_at "rd"
    intro p np
    walk_at "rd"
    refine for_L (cutV (ns.map V.int) none (some 63)) (fun i σ H2 => ∃ (c : Option V) (n : Int),
      σ = [some (.ref a), some (.int n), c] ∧ H2 = upd H p (.lst (cutV (ns.map V.int) none (some 63))) ∧ 0 ≤ n ∧
        n < 2147483629) ⟨none, 9480, rfl, rfl, by decide, by decide⟩ ?_ ?_ ?_
    · rintro i σ H2 hi ⟨c, n, rfl, rfl, _⟩
      exact SqL.of upd_same
    · rintro i x σ H2 hx ⟨c, n, rfl, rfl, h1, h2⟩
      have hm : x ∈ ns.map V.int := List.mem_of_mem_drop (List.mem_of_mem_take (List.mem_of_getElem? hx))
      obtain ⟨z, _, rfl⟩ := List.mem_map.mp hm
      walk_at "rd"
      exact ⟨_, _, rfl, rfl, Int.emod_nonneg _ (by decide), Int.emod_lt_of_pos _ (by decide)⟩
    · rintro σ H2 ⟨c, n, rfl, rfl, h1, h2⟩
      walk_at "rd"
      intro q nq
      walk_at "rd"
      intro l nl
      walk_at "rd"
      intro r nr
      have s3 : Same H _ := ((Same.new (o := HO.lst (cutV (ns.map V.int) none (some 63))) np).trans
        (Same.new (o := HO.lst (cutV (ns.map V.int) none (some 63))) nq)).trans
        (Same.new (o := HO.lst (cutV (ns.map V.int) none (some 63))) nl)
      obtain ⟨ms, em⟩ := cut_ints ns none (some 63)
      refine k r l _ (s3.free nr) (s3.trans (Same.new nr)) ⟨?_, ms, 0, 0, n, 0, upd_same, ?_, by simp, by omega, h1, h2⟩
      · rintro rfl
        rw [upd_same] at nr
        cases nr
      · rw [← em]
        exact at_upd nr upd_same

theorem okh__law_draw (T : Txt K mg e) : FnG P w K mg base CX0 1 e.f__law_draw e.d__law_draw ["_law_src", "_law_many"] spDraw := by
  refine okG T.F__law_draw sc__law_draw (fun vs H Q E h => ?_) (fun cdv A outer s H vs Q E hG hr h => ?_)
  · obtain ⟨a, la, m, rfl, _⟩ := h
    rfl
  · obtain ⟨a, la, m, rfl, m0, m1, hS, k⟩ := h
    refine ⟨_, (Evl.pss_cut (ps_if (PW.pt (pw_and (pt_cmpR op_lt (pe_ix (ix_listK (K := K) rfl) (pv 0) pe_int (fun _ _ => rfl)) (pv 1) (nomark _)) (pw_and1 (pt_cmpR op_lt (pe_ix (ix_listK (K := K) rfl) (pv 0) pe_int (fun _ _ => rfl)) (pe_callB (call_lenQ (K := K) rfl) (by rfl) T.n_len (by decide +kernel) (pa_cons (pe_ix (ix_listK (K := K) rfl) (pv 0) pe_int (fun _ _ => rfl)) pa_nil)) (nomark _)))))
    (pss_cons (ps_set (i := 2) sc__law_draw.nd rfl (by first | exact Or.inl rfl | exact Or.inr rfl) (pe_ix (ix_listK (K := K) rfl) (pe_ix (ix_listK (K := K) rfl) (pv 0) pe_int (fun _ _ => rfl)) (pe_ix (ix_listK (K := K) rfl) (pv 0) pe_int (fun _ _ => rfl)) (fun _ _ => rfl)))
      (pss_cons (ps_asg (pe_op op_add (pe_ix (ix_listK (K := K) rfl) (pv 0) pe_int (fun _ _ => rfl)) pe_int) (pg_sub (pv 0) pe_int set_list))
      (pss_cons (ps_asg (pe_op op_mod (pe_callTy call_int1 (by rfl) T.n_int (by decide +kernel) (pa_cons (pe_op op_add (pe_op op_add (pe_op op_mul (pe_ix (ix_listK (K := K) rfl) (pv 0) pe_int (fun _ _ => rfl)) pe_int) (pe_op op_mod (pe_callTy call_int1 (by rfl) T.n_int (by decide +kernel) (pa_cons (pv 2) pa_nil)) pe_int)) pe_int) pa_nil)) pe_int) (pg_sub (pv 0) pe_int set_list))
      (pss_one (ps_asg (pe_ifExp (pt_cmpR op_ge (pv 2) (pe_op op_pow pe_int pe_int) (nomark _)) (pv 2) pe_int) (pg_sub (pv 0) pe_int set_list))))))
    pss_nil)
  (pss_cons (ps_if (pt_cmpR op_ge (pe_ix (ix_listK (K := K) rfl) (pv 0) pe_int (fun _ _ => rfl)) (pv 1) (nomark _))
    (pss_cons (ps_set (i := 3) sc__law_draw.nd rfl (by first | exact Or.inl rfl | exact Or.inr rfl) (pe_op op_mod (pe_callTy call_int1 (by rfl) T.n_int (by decide +kernel) (pa_cons (pe_ix (ix_listK (K := K) rfl) (pv 0) pe_int (fun _ _ => rfl)) pa_nil)) (pv 1)))
      (pss_cons (ps_asg (pe_op op_fdivW (pe_ix (ix_listK (K := K) rfl) (pv 0) pe_int (fun _ _ => rfl)) (pv 1)) (pg_sub (pv 0) pe_int set_list))
      (pss_one (ps_ret (pv 3)))))
    pss_nil)
  (pss_cons (ps_asg (pe_op op_add (pe_ix (ix_listK (K := K) rfl) (pv 0) pe_int (fun _ _ => rfl)) pe_int) (pg_sub (pv 0) pe_int set_list))
  (pss_cons (ps_set (i := 4) sc__law_draw.nd rfl (by first | exact Or.inl rfl | exact Or.inr rfl) (pe_op op_mod (pe_callTy call_int1 (by rfl) T.n_int (by decide +kernel) (pa_cons (pe_op op_add (pe_ix (ix_listK (K := K) rfl) (pv 0) pe_int (fun _ _ => rfl)) (pe_op op_mul (pe_ix (ix_listK (K := K) rfl) (pv 0) pe_int (fun _ _ => rfl)) pe_int)) pa_nil)) pe_int))
  (pss_cons (ps_set (i := 5) sc__law_draw.nd rfl (by first | exact Or.inl rfl | exact Or.inr rfl) (pe_op op_mul (pe_op op_mod (pe_callTy call_int1 (by rfl) T.n_int (by decide +kernel) (pa_cons (pe_op op_mul (pv 4) (pv 4)) pa_nil)) pe_int) (pe_op op_add (pe_op op_mod (pe_callTy call_int1 (by rfl) T.n_int (by decide +kernel) (pa_cons (pv 4) pa_nil)) pe_int) pe_int)))
  (pss_cons (ps_asg (pe_op op_mod (pe_callTy call_int1 (by rfl) T.n_int (by decide +kernel) (pa_cons (pe_op op_add (pe_op op_add (pv 5) (pe_op op_mul pe_int (pv 4))) pe_int) pa_nil)) pe_int) (pg_sub (pv 0) pe_int set_list))
  (pss_one (ps_ret (pe_op op_mod (pe_callTy call_int1 (by rfl) T.n_int (by decide +kernel) (pa_cons (pe_op op_add (pe_op op_fdivW (pe_ix (ix_listK (K := K) rfl) (pv 0) pe_int (fun _ _ => rfl)) pe_int) (pe_op op_mul (pe_op op_mod (pe_callTy call_int1 (by rfl) T.n_int (by decide +kernel) (pa_cons (pe_ix (ix_listK (K := K) rfl) (pv 0) pe_int (fun _ _ => rfl)) pa_nil)) pe_int) pe_int)) pa_nil)) (pv 1)))))))))), ?_⟩
    try dsimp only [cxOf, Cx.nox, Cx.wish]
    refine r_cut (fun σ H1 => ∃ c, σ = [some (.ref a), some (.int m), c, none, none, none] ∧ Src H1 a la ∧ But a H H1) ?_ ?_
    · obtain ⟨ne, ns, pos, rest, st, n, h1, h2, hp, r0, s0, s1⟩ := hS
      walk_at "rd"
      have skip : ∃ c, start ["_law_src", "_law_many", "_law_cell", "_law_digit", "_law_base9", "_law_later9"] [.ref a, .int m] = [some (.ref a), some (.int m), c, none, none, none] ∧
          Src H a la ∧ But a H H := ⟨none, rfl, ⟨ne, ns, pos, rest, st, n, h1, h2, hp, r0, s0, s1⟩, But.refl a H⟩
      refine ite_b (fun hc => ?_) (fun hc => ite_f rfl skip)
      walk_at "rd"
      refine ite_b (fun hd => ?_) (fun hd => skip)
      have hpos : pos < ns.length := by simpa using hd
      obtain ⟨cell, hcell⟩ : ∃ cell : Int, (ns.map V.int)[pos]? = some (.int cell) := ⟨ns[pos], by simp [hpos]⟩
      have h2' : ∀ o, (upd H a o) la = some (.lst (ns.map V.int)) := fun o => at_ne ne h2
      walk_at "rd"
      have fin : ∀ r : Int, 0 ≤ r → (fun σ H1 => ∃ c, σ = [some (V.ref a), some (V.int m), c, none, none, none] ∧ Src H1 a la ∧ But a H H1)
          [some (V.ref a), some (V.int m), some (V.int cell), none, none, none]
          (upd (upd (upd H a (.lst [.ref la, .int (pos + 1), .int rest, .int st, .int n])) a (.lst [.ref la, .int (pos + 1), .int rest,
            .int ((st * 48281 + cell % 2147483549 + 17) % 2147483587), .int n])) a (.lst [.ref la, .int (pos + 1), .int r,
            .int ((st * 48281 + cell % 2147483549 + 17) % 2147483587), .int n])) := fun r hr => by
        refine ⟨_, rfl, ⟨ne, ns, pos + 1, r, _, n, upd_same, at_ne ne (at_ne ne (at_ne ne h2)), hpos, hr, Int.emod_nonneg _ (by decide), ?_⟩, ((But.refl a H).upd.upd).upd⟩
        have := Int.emod_lt_of_pos (st * 48281 + cell % 2147483549 + 17) (show (0 : Int) < 2147483587 by decide)
        omega
      refine ite_b (fun he => ?_) (fun he => ?_)
      · walk_at "rd"
        exact fin cell (by have := of_decide_eq_true he; have e18 : (10 : Int) ^ (18 : Int).toNat = 1000000000000000000 := by decide +kernel
                           omega)
      · walk_at "rd"
        exact fin 0 (by decide)
    · rintro σ H1 ⟨c, rfl, ⟨ne, ns, pos, rest, st, n, h1, h2, hp, r0, s0, s1⟩, hB⟩
      have hW : CDivW rest m := wide_div (b := 200) m0 (by omega) (by decide) (by decide)
      have hW2 : ∀ z : Int, CDivW z 67 := fun z => wide_div (b := 10) (by decide) (by decide) (by decide) (by decide)
      have e1 := fun z => Int.emod_nonneg z (show m ≠ 0 by omega)
      have e2 := fun z => Int.emod_lt_of_pos z m0
      walk_at "rd"
      refine ite_b (fun hc => ?_) (fun hc => ?_)
      · walk_at "rd"
        refine k _ _ (e1 _) (e2 _) ⟨ne, ns, pos, rest / m, st, n, upd_same, at_ne ne h2, hp, Int.ediv_nonneg r0 (by omega), s0, s1⟩ hB.upd
      · walk_at "rd"
        refine k _ _ (e1 _) (e2 _) ⟨ne, ns, pos, rest, _, n + 1, upd_same, at_ne ne (at_ne ne h2), hp, r0, Int.emod_nonneg _ (by decide), ?_⟩ hB.upd.upd
        refine Int.lt_trans (Int.emod_lt_of_pos _ (by decide)) (by decide)

/-- .. over data -/
theorem ok__law_draw (T : Txt K mg e) : FnG P w K mg base CX0 1 e.f__law_draw e.d__law_draw ["_law_src", "_law_many"] (spD tDraw) :=
  (okh__law_draw T).toD fun vs H Q E ⟨ds, h, Q2, a, r, ⟨p, la, m, ed, e1, m0, m1, q⟩, po⟩ => by
    subst ed
    cases a with
    | cons d1 d2 =>
      cases d2 with
      | cons d2 d3 =>
        cases d3
        cases d1
        cases d2
        refine ⟨p, la, m, rfl, m0, m1, r.cell p _ e1, fun j H' j0 j1 s b => ?_⟩
        have f := fz_but e1 b
        exact po _ h _ H' (q j j0 j1) (.int j) (relH_but r e1 b s) (by show Same _ _; rw [f]; exact Same.refl _)
end

end Toy

set_option Elab.async false
set_option linter.all false
set_option maxRecDepth 100000
set_option maxHeartbeats 4000000
namespace Toy
open PySem L2 GX PySem.Spec TL
/-! ### one step of a reading over data -/
local macro_rules | `(tactic| walk_at "d1") => `(tactic| with_reducible first
  | refine' d_seq ?_ | refine' d_asg ?_ | refine' d_retF ?_ | refine' d_retN ?_ | refine' d_drop ?_ | refine' d_next ?_ | refine' d_break ?_ | refine' d_cont ?_ | refine' d_ifS ?_ | refine' d_par ?_ | refine' d_pr ?_
  | refine' d_cInt ?_ | refine' d_cBl ?_ | refine' d_cStr ?_ | refine' d_cNon ?_ | refine' d_op ?_ | refine' d_un ?_ | refine' d_test ?_ | refine' d_B ?_ | refine' d_bl ?_
  | refine' d_and ?_ | refine' d_or ?_ | refine' d_not ?_ | refine' d_yes ?_ | refine' d_if ?_ | refine' d_andV ?_ | refine' d_orV ?_ | refine' d_notV ?_ | refine' d_chain ?_
  | refine' d_nil ?_ | refine' d_cons ?_ | refine' d_CB ?_ | refine' d_tup ?_ | refine' d_call ?_ | refine' d_fld ?_ | refine' d_sfld ?_ | refine' d_meth ?_ | refine' d_make ?_
  | refine' d_din ?_ | refine' d_dnin ?_ | refine' d_dget ?_ | refine' d_dput ?_ | refine' d_dsetd ?_ | refine' d_for ?_ | refine' d_lc ?_
  | refine' i_seq ?_ | refine' i_list ?_ | refine' i_tup ?_ | refine' i_str ?_ | refine' i_rng1 ?_ | refine' i_rng2 ?_ | refine' i_rng3 ?_ | refine' i_zip ?_ | refine' i_enum ?_
  | refine' d_sl ?_ | refine' d_part ?_ | refine' d_nopart ?_ | refine' d_M1 ?_ | refine' d_M0 ?_ | refine' x_part ?_ | refine' x_strE ?_ | refine' x_seqF ?_ | refine' x_seqT ?_ | refine' x_lstF ?_ | refine' x_isLf ?_
  | refine' ⟨_, g_name ?_⟩ | refine' g_name ?_ | refine' g_nil ?_ | refine' g_cons ?_ | refine' ⟨_, g_sub ?_⟩ | refine' x_same ?_ | refine' d_BML rfl ?_ | refine' d_BML0 rfl ?_)
local macro_rules | `(tactic| walk_at "dv") => `(tactic| ((with_reducible refine' d_var ?hv ?_); (case hv => rfl)))
/-- a cell's content -/
local macro_rules | `(tactic| walk_at "hn") => `(tactic| first
  | assumption | exact Ne.symm (by assumption)
  | ((refine' h_ne ?ha ?hb); (case hb => assumption); (case ha => walk_at "hc"))
  | ((refine' Ne.symm (h_ne ?ha ?hb)); (case hb => assumption); (case ha => walk_at "hc")))
local macro_rules | `(tactic| walk_at "hc") => `(tactic| first
  | assumption | exact seth_same
  | ((refine' (seth_ne ?hn).trans ?hh); (case hn => walk_at "hn"); (case hh => walk_at "hc")))
/-- a sequence seen -/
local macro_rules | `(tactic| walk_at "sq") => `(tactic| first
  | exact LsV.f | exact SqV.l | exact SqV.t | assumption | exact Or.inl (by assumption) | ((refine' LsV.c ?e0); (case e0 => walk_at "hc")) | ((refine' SqV.c ?e0); (case e0 => walk_at "hc")) | assumption)
local macro_rules | `(tactic| walk_at "lk") => `(tactic| first | (with_reducible exact lk0) | exact lkN | (refine lkS (by decide +kernel) ?_; walk_at "lk"))
local macro_rules | `(tactic| walk_at "iv") => `(tactic| first | exact InsV.f | assumption | ((refine' InsV.c ?e0); (case e0 => walk_at "hc")))
local macro_rules | `(tactic| walk_at "dk") => `(tactic| first | exact DkV.f | assumption | ((refine' DkV.c ?e0); (case e0 => walk_at "hc")))
local macro_rules | `(tactic| walk_at "cls") => `(tactic| first | assumption | exact Txt.c_Signature (by assumption) | exact Txt.a_Signature_entries (by assumption) | exact Txt.a_Signature_grouped (by assumption))
local macro_rules | `(tactic| walk_at "he") => `(tactic| first | rfl | assumption | exact atI_nat (by assumption) | exact atI_eq (by assumption) (by omega))
local macro_rules | `(tactic| walk_at "hl") => `(tactic| first | assumption | (simp only [List.length_map, List.length_append, List.length_cons, List.length_nil, List.length_replicate, strLen_append]; omega) | omega | decide)
local macro_rules | `(tactic| walk_at "dx") => `(tactic| first
  | ((with_reducible refine' d_aug ?hv ?_); (case hv => rfl))
  | ((with_reducible refine' ⟨_, g_tup ?hl ?_⟩); (case hl => rfl))
  | ((with_reducible refine' g_tup ?hl ?_); (case hl => rfl))
  | ((with_reducible refine' ⟨_, g_seqT ?hl ?_⟩); (case hl => rfl))
  | ((with_reducible refine' g_seqT ?hl ?_); (case hl => rfl))
  | ((with_reducible refine' ⟨_, g_seqL ?hx ?hl ?_⟩); (case hx => walk_at "sq"); (case hl => rfl))
  | ((with_reducible refine' g_seqL ?hx ?hl ?_); (case hx => walk_at "sq"); (case hl => rfl))
  | ((with_reducible refine' g_nameV ?hm ?_); (case hm => simp))
  | (with_reducible refine' g_consV ?_)
  | (with_reducible refine' g_nilV ?_)
  | ((with_reducible refine' x_seqC ?hs ?_); (case hs => walk_at "hc"))
  | ((with_reducible refine' x_lstC ?hs ?_); (case hs => walk_at "hc"))
  | ((with_reducible refine' x_isL ?hs ?_); (case hs => walk_at "hc"))
  | ((with_reducible refine' x_size ?hs ?_); (case hs => walk_at "hl"))
  | ((with_reducible refine' x_rg1 ?hs ?_); (case hs => constructor <;> first | omega | (simp only [List.length_map]; omega)))
  | ((with_reducible refine' x_rg2 ?hs ?_); (case hs => refine ⟨?_, ?_, ?_, ?_⟩ <;> first | omega | (simp only [List.length_map]; omega)))
  | (with_reducible refine' w_addI ?_)
  | ((with_reducible refine' w_mulI ?hc ?_); (case hc => first | assumption | exact cmul_small (by constructor <;> omega) (by constructor <;> omega)))
  | (with_reducible refine' v_I0i ?_)
  | (with_reducible refine' v_I0b ?_)
  | (with_reducible refine' v_Ui ?_)
  | (with_reducible refine' w_eqI ?_)
  | (with_reducible refine' w_eqS ?_)
  | (with_reducible refine' w_eqB ?_)
  | (with_reducible refine' w_neI ?_)
  | (with_reducible refine' w_neS ?_)
  | (with_reducible refine' w_neB ?_)
  | (with_reducible refine' v_isN ?_)
  | (with_reducible refine' v_notN ?_)
  | (with_reducible refine' w_inSign ?_)
  | ((with_reducible refine' w_inS ?hs ?_); (case hs => walk_at "sq"))
  | ((with_reducible refine' w_ninS ?hs ?_); (case hs => walk_at "sq"))
  | ((with_reducible refine' w_inI ?hs ?_); (case hs => walk_at "sq"))
  | ((with_reducible refine' w_ninI ?hs ?_); (case hs => walk_at "sq"))
  | ((with_reducible refine' w_addS ?hl ?_); (case hl => walk_at "hl"))
  | ((with_reducible refine' w_catT ?hl ?_); (case hl => walk_at "hl"))
  | ((with_reducible refine' w_slS ?hl ?_); (case hl => walk_at "hl"))
  | (with_reducible refine' w_slT ?_)
  | ((with_reducible refine' w_slL ?hs (.f ?_)); (case hs => walk_at "sq"))
  | ((with_reducible refine' w_lenS ?hl ?_); (case hl => walk_at "hl"))
  | ((with_reducible refine' w_len ?hs ?_); (case hs => walk_at "sq"))
  | ((with_reducible refine' w_lenD ?hs ?_); (case hs => walk_at "dk"))
  | ((with_reducible refine' v_tupOf ?hs ?_); (case hs => walk_at "sq"))
  | ((with_reducible refine' w_list ?hs (.f ?_)); (case hs => walk_at "sq"))
  | ((with_reducible refine' v_sum ?hs ?_); (case hs => walk_at "sq"))
  | ((with_reducible refine' v_all ?hs ?_); (case hs => walk_at "sq"))
  | ((with_reducible refine' v_any ?hs ?_); (case hs => walk_at "sq"))
  | (with_reducible refine' v_max2 ?_)
  | (with_reducible refine' v_min2 ?_)
  | (with_reducible refine' v_int1 ?_)
  | (with_reducible refine' v_int1b ?_)
  | (with_reducible refine' v_abs ?_)
  | ((with_reducible refine' w_ixT ?he ?_); (case he => walk_at "he"))
  | ((with_reducible refine' w_ixL ?hs ?he ?_); (case hs => walk_at "sq"); (case he => walk_at "he"))
  | ((with_reducible refine' v_app ?hs ?hl ?_); (case hs => walk_at "hc"); (case hl => walk_at "hl"))
  | ((with_reducible refine' v_insert ?hs ?hl ?h0 ?_); (case hs => walk_at "hc"); (case hl => walk_at "hl"); (case h0 => constructor <;> omega))
  | ((with_reducible refine' x_fldV ?hi ?hc ?hn ?hl ?_); (case hi => walk_at "iv"); (case hc => walk_at "cls"); (case hn => walk_at "cls"); (case hl => walk_at "lk"))
  | ((with_reducible refine' x_methV ?hi ?hl ?_); (case hi => walk_at "iv"); (case hl => walk_at "lk"))
  | ((with_reducible refine' x_sfldC ?hs ?hc ?hn ?hl ?_); (case hs => walk_at "hc"); (case hc => walk_at "cls"); (case hn => walk_at "cls"); (case hl => first | simp | (refine Nat.lt_of_le_of_lt putFD_len ?_; simp) | (refine Nat.lt_of_le_of_lt putFD_len (Nat.lt_of_le_of_lt (Nat.succ_le_succ putFD_len) ?_); simp)))
  | ((with_reducible refine' x_inS ?hs ?_); (case hs => walk_at "dk"))
  | ((with_reducible refine' x_inI ?hs ?_); (case hs => walk_at "dk"))
  | ((with_reducible refine' x_getS ?hs ?he ?_); (case hs => walk_at "dk"); (case he => assumption))
  | ((with_reducible refine' x_getI ?hs ?he ?_); (case hs => walk_at "dk"); (case he => assumption))
  | ((with_reducible refine' x_putS ?hs ?hl ?_); (case hs => walk_at "hc"); (case hl => walk_at "hl"))
  | ((with_reducible refine' x_putI ?hs ?hl ?_); (case hs => walk_at "hc"); (case hl => walk_at "hl"))
  | ((with_reducible refine' x_isK ?hs ?_); (case hs => walk_at "dk"))
  | ((with_reducible refine' x_isDV ?hs ?_); (case hs => walk_at "dk")))
local macro_rules | `(tactic| walk_at "dd") => `(tactic| repeat' (first | walk_at "d1" | walk_at "dv" | walk_at "dx"))

/-! ### one of some, things mixed -/
section
variable {P : Program} {w : World} {K : PySem.W.Frag} {mg : Str → Option Value} {base : Heap} {e : Env}
theorem perm_ins {α : Type} (n : Nat) (y : α) (ys : List α) : (ys.take n ++ [y] ++ ys.drop n).Perm (y :: ys) := by
  rw [List.append_assoc]
  refine List.perm_middle.trans ?_
  show (y :: (ys.take n ++ ys.drop n)).Perm (y :: ys)
  rw [List.take_append_drop]
def tOf : TD := fun ds h Q => ∃ (a la : Addr) (x : D) (xs : List D), ds = [.ref a, x] ∧ h a = some (.src la) ∧ LsV h x xs ∧ xs ≠ [] ∧ xs.length < 100000 ∧ ∀ y ∈ xs, Q y h
theorem sc__law_of : FnScope ["_law_src", "_law_some"] ["_law_src", "_law_some"] (defScope s__law_of) :=
  ⟨rfl, rfl, rfl, by decide +kernel, rfl, by decide +kernel, by decide +kernel⟩
theorem ok__law_of (T : Txt K mg e) : FnG P w K mg base CX0 2 e.f__law_of e.d__law_of ["_law_src", "_law_some"] (spD (tOf)) := by
  refine okD T.F__law_of sc__law_of (fun ds h Q z => by obtain ⟨a, la, x, xs, rfl, _⟩ := z; rfl) (fun cdv A outer s H E hG hr => ?_)
  refine ⟨_, (pss_one (ps_ret (pe_ix (ix_seqK (K := K) rfl) (pv 1) (pe_callG (ok__law_draw T) hG (hr.mono (by decide)) (by rfl) T.g__law_draw T.F__law_draw.kp T.b__law_draw .nil pass0 (pa_cons (pv 0) (pa_cons (pe_callB (call_lenA (K := K) rfl) (by rfl) T.n_len (by decide +kernel) (pa_cons (pv 1) pa_nil)) pa_nil))) (fun _ _ => rfl)))), ?_⟩
  intro ds h Q z
  try dsimp only [cxOf, Cx.nox, Cx.wish]
  obtain ⟨a, la, x, xs, rfl, ea, hv, ne, hz, k⟩ := z
  have h0 := List.length_pos_iff.mpr ne
  walk_at "dd"
  refine ⟨a, la, _, rfl, ea, by omega, by omega, fun j j0 j1 => ?_⟩
  obtain ⟨n, rfl⟩ := Int.eq_ofNat_of_zero_le j0
  have hg := List.getElem?_eq_getElem (show n < xs.length by omega)
  walk_at "dd"
  exact frz0 (k _ (List.getElem_mem _))
def tMixed : TD := fun ds h Q => ∃ (a la : Addr) (xs : List D), ds = [.ref a, .lst xs] ∧ h a = some (.src la) ∧ xs.length ≤ 1000 ∧ ∀ ys : List D, ys.Perm xs → Fresh ys h Q
theorem sc__law_mixed : FnScope ["_law_src", "_law_things", "_law_found", "_law_thing"] ["_law_src", "_law_things"] (defScope s__law_mixed) :=
  ⟨rfl, rfl, rfl, by decide +kernel, rfl, by decide +kernel, by decide +kernel⟩
theorem ok__law_mixed (T : Txt K mg e) : FnG P w K mg base CX0 2 e.f__law_mixed e.d__law_mixed ["_law_src", "_law_things"] (spD (tMixed)) := by
  refine okD T.F__law_mixed sc__law_mixed (fun ds h Q z => by obtain ⟨a, la, xs, rfl, _⟩ := z; rfl) (fun cdv A outer s H E hG hr => ?_)
  refine ⟨_, (pss_cons (ps_set (i := 2) sc__law_mixed.nd rfl (by first | exact Or.inl rfl | exact Or.inr rfl) (pe_lst pa_nil))
  (pss_cons (ps_for PassesOwn.never rfl (pi_seqK (K := K) rfl (pv 1)) (pg_name (i := 3) sc__law_mixed.nd rfl (by first | exact Or.inl rfl | exact Or.inr rfl))
    (pss_one (ps_expr (pe_bmK (K := K) rfl PySem.F.plainAttrs_list PySem.F.slot_list_insert PySem.F.type_list_insert mt_ins (pv 2) (pa_cons (pe_callG (ok__law_draw T) hG (hr.mono (by decide)) (by rfl) T.g__law_draw T.F__law_draw.kp T.b__law_draw .nil pass0 (pa_cons (pv 0) (pa_cons (pe_op (op_addG (K := K) rfl) (pe_callB (call_lenA (K := K) rfl) (by rfl) T.n_len (by decide +kernel) (pa_cons (pv 2) pa_nil)) pe_int) pa_nil))) (pa_cons (pv 3) pa_nil))))))
  (pss_one (ps_ret (pv 2))))), ?_⟩
  intro ds h Q z
  try dsimp only [cxOf, Cx.nox, Cx.wish]
  obtain ⟨a, la, xs, rfl, ea, hz, k⟩ := z
  walk_at "dd"
  refine d_lstC (d_nil ⟨by decide, fun f nf => ?_⟩)
  walk_at "dd"
  refine for_P [3] xs id (by rw [List.map_id]) (fun pre ρ h' => ∃ ys : List D, ys.Perm pre ∧ ρ = [some (.ref a), some (.lst xs), some (.ref f), none] ∧ h' = seth h f (.lst ys)) ⟨[], .nil, rfl, rfl⟩ ?_ ?_ ?_
  · rintro pre ρ h' _
    trivial
  · rintro pre y post ρ h' el ⟨ys, py, rfl, rfl⟩
    have nfa := h_ne ea nf
    have hl := congrArg List.length el
    have hl2 := py.length_eq
    rw [List.length_append, List.length_cons] at hl
    walk_at "dd"
    refine ⟨a, la, _, rfl, by walk_at "hc", by omega, by omega, fun j j0 j1 => ?_⟩
    walk_at "dd"
    exact ⟨_, (perm_ins _ _ _).trans ((py.cons y).trans (List.perm_append_singleton y pre).symm), rfl, seth_seth⟩
  · rintro ρ h' ⟨ys, py, rfl, rfl⟩
    walk_at "dd"
    exact (k ys py).frz nf
end

end Toy

set_option Elab.async false
set_option linter.all false
set_option maxRecDepth 100000
set_option maxHeartbeats 4000000
namespace Toy
open PySem L2 GX PySem.Spec TL
/-! ### one step of a reading over data -/
local macro_rules | `(tactic| walk_at "d1") => `(tactic| with_reducible first
  | refine' d_seq ?_ | refine' d_asg ?_ | refine' d_retF ?_ | refine' d_retN ?_ | refine' d_drop ?_ | refine' d_next ?_ | refine' d_break ?_ | refine' d_cont ?_ | refine' d_ifS ?_ | refine' d_par ?_ | refine' d_pr ?_
  | refine' d_cInt ?_ | refine' d_cBl ?_ | refine' d_cStr ?_ | refine' d_cNon ?_ | refine' d_op ?_ | refine' d_un ?_ | refine' d_test ?_ | refine' d_B ?_ | refine' d_bl ?_
  | refine' d_and ?_ | refine' d_or ?_ | refine' d_not ?_ | refine' d_yes ?_ | refine' d_if ?_ | refine' d_andV ?_ | refine' d_orV ?_ | refine' d_notV ?_ | refine' d_chain ?_
  | refine' d_nil ?_ | refine' d_cons ?_ | refine' d_CB ?_ | refine' d_tup ?_ | refine' d_call ?_ | refine' d_fld ?_ | refine' d_sfld ?_ | refine' d_meth ?_ | refine' d_make ?_
  | refine' d_din ?_ | refine' d_dnin ?_ | refine' d_dget ?_ | refine' d_dput ?_ | refine' d_dsetd ?_ | refine' d_for ?_ | refine' d_lc ?_
  | refine' i_seq ?_ | refine' i_list ?_ | refine' i_tup ?_ | refine' i_str ?_ | refine' i_rng1 ?_ | refine' i_rng2 ?_ | refine' i_rng3 ?_ | refine' i_zip ?_ | refine' i_enum ?_
  | refine' d_sl ?_ | refine' d_part ?_ | refine' d_nopart ?_ | refine' d_M1 ?_ | refine' d_M0 ?_ | refine' x_part ?_ | refine' x_strE ?_ | refine' x_seqF ?_ | refine' x_seqT ?_ | refine' x_lstF ?_ | refine' x_isLf ?_
  | refine' ⟨_, g_name ?_⟩ | refine' g_name ?_ | refine' g_nil ?_ | refine' g_cons ?_ | refine' ⟨_, g_sub ?_⟩ | refine' x_same ?_ | refine' d_BML rfl ?_ | refine' d_BML0 rfl ?_)
local macro_rules | `(tactic| walk_at "dv") => `(tactic| ((with_reducible refine' d_var ?hv ?_); (case hv => rfl)))
/-- a cell's content -/
local macro_rules | `(tactic| walk_at "hn") => `(tactic| first
  | assumption | exact Ne.symm (by assumption)
  | ((refine' h_ne ?ha ?hb); (case hb => assumption); (case ha => walk_at "hc"))
  | ((refine' Ne.symm (h_ne ?ha ?hb)); (case hb => assumption); (case ha => walk_at "hc")))
local macro_rules | `(tactic| walk_at "hc") => `(tactic| first
  | assumption | exact seth_same
  | ((refine' (seth_ne ?hn).trans ?hh); (case hn => walk_at "hn"); (case hh => walk_at "hc")))
/-- a sequence seen -/
local macro_rules | `(tactic| walk_at "sq") => `(tactic| first
  | exact LsV.f | exact SqV.l | exact SqV.t | assumption | exact Or.inl (by assumption) | ((refine' LsV.c ?e0); (case e0 => walk_at "hc")) | ((refine' SqV.c ?e0); (case e0 => walk_at "hc")) | assumption)
local macro_rules | `(tactic| walk_at "lk") => `(tactic| first | (with_reducible exact lk0) | exact lkN | (refine lkS (by decide +kernel) ?_; walk_at "lk"))
local macro_rules | `(tactic| walk_at "iv") => `(tactic| first | exact InsV.f | assumption | ((refine' InsV.c ?e0); (case e0 => walk_at "hc")))
local macro_rules | `(tactic| walk_at "dk") => `(tactic| first | exact DkV.f | assumption | ((refine' DkV.c ?e0); (case e0 => walk_at "hc")))
local macro_rules | `(tactic| walk_at "cls") => `(tactic| first | assumption | exact Txt.c_Signature (by assumption) | exact Txt.a_Signature_entries (by assumption) | exact Txt.a_Signature_grouped (by assumption))
local macro_rules | `(tactic| walk_at "he") => `(tactic| first | rfl | assumption | exact atI_nat (by assumption) | exact atI_eq (by assumption) (by omega))
local macro_rules | `(tactic| walk_at "hl") => `(tactic| first | assumption | (simp only [List.length_map, List.length_append, List.length_cons, List.length_nil, List.length_replicate, strLen_append]; omega) | omega | decide)
local macro_rules | `(tactic| walk_at "dx") => `(tactic| first
  | ((with_reducible refine' d_aug ?hv ?_); (case hv => rfl))
  | ((with_reducible refine' ⟨_, g_tup ?hl ?_⟩); (case hl => rfl))
  | ((with_reducible refine' g_tup ?hl ?_); (case hl => rfl))
  | ((with_reducible refine' ⟨_, g_seqT ?hl ?_⟩); (case hl => rfl))
  | ((with_reducible refine' g_seqT ?hl ?_); (case hl => rfl))
  | ((with_reducible refine' ⟨_, g_seqL ?hx ?hl ?_⟩); (case hx => walk_at "sq"); (case hl => rfl))
  | ((with_reducible refine' g_seqL ?hx ?hl ?_); (case hx => walk_at "sq"); (case hl => rfl))
  | ((with_reducible refine' g_nameV ?hm ?_); (case hm => simp))
  | (with_reducible refine' g_consV ?_)
  | (with_reducible refine' g_nilV ?_)
  | ((with_reducible refine' x_seqC ?hs ?_); (case hs => walk_at "hc"))
  | ((with_reducible refine' x_lstC ?hs ?_); (case hs => walk_at "hc"))
  | ((with_reducible refine' x_isL ?hs ?_); (case hs => walk_at "hc"))
  | ((with_reducible refine' x_size ?hs ?_); (case hs => walk_at "hl"))
  | ((with_reducible refine' x_rg1 ?hs ?_); (case hs => constructor <;> first | omega | (simp only [List.length_map]; omega)))
  | ((with_reducible refine' x_rg2 ?hs ?_); (case hs => refine ⟨?_, ?_, ?_, ?_⟩ <;> first | omega | (simp only [List.length_map]; omega)))
  | (with_reducible refine' w_addI ?_)
  | ((with_reducible refine' w_mulI ?hc ?_); (case hc => first | assumption | exact cmul_small (by constructor <;> omega) (by constructor <;> omega)))
  | (with_reducible refine' v_I0i ?_)
  | (with_reducible refine' v_I0b ?_)
  | (with_reducible refine' v_Ui ?_)
  | (with_reducible refine' w_eqI ?_)
  | (with_reducible refine' w_eqS ?_)
  | (with_reducible refine' w_eqB ?_)
  | (with_reducible refine' w_neI ?_)
  | (with_reducible refine' w_neS ?_)
  | (with_reducible refine' w_neB ?_)
  | (with_reducible refine' v_isN ?_)
  | (with_reducible refine' v_notN ?_)
  | (with_reducible refine' w_inSign ?_)
  | ((with_reducible refine' w_inS ?hs ?_); (case hs => walk_at "sq"))
  | ((with_reducible refine' w_ninS ?hs ?_); (case hs => walk_at "sq"))
  | ((with_reducible refine' w_inI ?hs ?_); (case hs => walk_at "sq"))
  | ((with_reducible refine' w_ninI ?hs ?_); (case hs => walk_at "sq"))
  | ((with_reducible refine' w_addS ?hl ?_); (case hl => walk_at "hl"))
  | ((with_reducible refine' w_catT ?hl ?_); (case hl => walk_at "hl"))
  | ((with_reducible refine' w_slS ?hl ?_); (case hl => walk_at "hl"))
  | (with_reducible refine' w_slT ?_)
  | ((with_reducible refine' w_slL ?hs (.f ?_)); (case hs => walk_at "sq"))
  | ((with_reducible refine' w_lenS ?hl ?_); (case hl => walk_at "hl"))
  | ((with_reducible refine' w_len ?hs ?_); (case hs => walk_at "sq"))
  | ((with_reducible refine' w_lenD ?hs ?_); (case hs => walk_at "dk"))
  | ((with_reducible refine' v_tupOf ?hs ?_); (case hs => walk_at "sq"))
  | ((with_reducible refine' w_list ?hs (.f ?_)); (case hs => walk_at "sq"))
  | ((with_reducible refine' v_sum ?hs ?_); (case hs => walk_at "sq"))
  | ((with_reducible refine' v_all ?hs ?_); (case hs => walk_at "sq"))
  | ((with_reducible refine' v_any ?hs ?_); (case hs => walk_at "sq"))
  | (with_reducible refine' v_max2 ?_)
  | (with_reducible refine' v_min2 ?_)
  | (with_reducible refine' v_int1 ?_)
  | (with_reducible refine' v_int1b ?_)
  | (with_reducible refine' v_abs ?_)
  | ((with_reducible refine' w_ixT ?he ?_); (case he => walk_at "he"))
  | ((with_reducible refine' w_ixL ?hs ?he ?_); (case hs => walk_at "sq"); (case he => walk_at "he"))
  | ((with_reducible refine' v_app ?hs ?hl ?_); (case hs => walk_at "hc"); (case hl => walk_at "hl"))
  | ((with_reducible refine' v_insert ?hs ?hl ?h0 ?_); (case hs => walk_at "hc"); (case hl => walk_at "hl"); (case h0 => constructor <;> omega))
  | ((with_reducible refine' x_fldV ?hi ?hc ?hn ?hl ?_); (case hi => walk_at "iv"); (case hc => walk_at "cls"); (case hn => walk_at "cls"); (case hl => walk_at "lk"))
  | ((with_reducible refine' x_methV ?hi ?hl ?_); (case hi => walk_at "iv"); (case hl => walk_at "lk"))
  | ((with_reducible refine' x_sfldC ?hs ?hc ?hn ?hl ?_); (case hs => walk_at "hc"); (case hc => walk_at "cls"); (case hn => walk_at "cls"); (case hl => first | simp | (refine Nat.lt_of_le_of_lt putFD_len ?_; simp) | (refine Nat.lt_of_le_of_lt putFD_len (Nat.lt_of_le_of_lt (Nat.succ_le_succ putFD_len) ?_); simp)))
  | ((with_reducible refine' x_inS ?hs ?_); (case hs => walk_at "dk"))
  | ((with_reducible refine' x_inI ?hs ?_); (case hs => walk_at "dk"))
  | ((with_reducible refine' x_getS ?hs ?he ?_); (case hs => walk_at "dk"); (case he => assumption))
  | ((with_reducible refine' x_getI ?hs ?he ?_); (case hs => walk_at "dk"); (case he => assumption))
  | ((with_reducible refine' x_putS ?hs ?hl ?_); (case hs => walk_at "hc"); (case hl => walk_at "hl"))
  | ((with_reducible refine' x_putI ?hs ?hl ?_); (case hs => walk_at "hc"); (case hl => walk_at "hl"))
  | ((with_reducible refine' x_isK ?hs ?_); (case hs => walk_at "dk"))
  | ((with_reducible refine' x_isDV ?hs ?_); (case hs => walk_at "dk")))
local macro_rules | `(tactic| walk_at "dd") => `(tactic| repeat' (first | walk_at "d1" | walk_at "dv" | walk_at "dx"))

/-! ### names of letters, words, equal texts -/
section
variable {P : Program} {w : World} {K : PySem.W.Frag} {mg : Str → Option Value} {base : Heap} {e : Env}
def tIsName : TD := fun ds h Q => ∃ z : Str, ds = [.str z] ∧ z.length ≤ 1000 ∧ Q (.bl (isNm z)) h
theorem sc_is_name : FnScope ["text", "sign"] ["text"] (defScope s_is_name) :=
  ⟨rfl, rfl, rfl, by decide +kernel, rfl, by decide +kernel, by decide +kernel⟩
theorem ok_is_name (T : Txt K mg e) : FnG P w K mg base CX0 1 e.f_is_name e.d_is_name ["text"] (spD (tIsName)) := by
  refine okD T.F_is_name sc_is_name (fun ds h Q z => by obtain ⟨z, rfl, _⟩ := z; rfl) (fun cdv A outer s H E hG hr => ?_)
  refine ⟨_, (pss_one (ps_ret (pe_and (pe_chain op_le op_le pe_int (pe_callB (call_lenA (K := K) rfl) (by rfl) T.n_len (by decide +kernel) (pa_cons (pv 0) pa_nil)) (pe_glob (v := .int 8) (by rfl) T.g_LONGEST_NAME.choose_spec ⟨_, rfl⟩)) (pe_one (pe_callB (cr_allK (K := K) rfl rfl) (by rfl) T.n_all (by decide +kernel) (pa_cons (pe_lc (own := [("sign", 1)]) (g := (gName 1)) (tt := tYes) rfl sc_is_name.nd (pi_str (pv 0)) (blkOk_by (own := [("sign", 1)]) (N := ["text", "sign"]) (sc := defScope (top 24)) (by decide +kernel)) (fun _ _ _ _ _ => (pg_name (i := 1) sc_is_name.nd rfl (by first | exact Or.inl rfl | exact Or.inr rfl))) (fun _ _ _ _ _ => pts_nil) (fun _ _ _ _ _ => (pe_cmpR (op_inG (K := K) rfl (units65 hr)) (pv 1) (pe_glob (v := .str alphabet) (by rfl) T.g_LETTERS.choose_spec ⟨_, rfl⟩) (by rfl)))) pa_nil)))))), ?_⟩
  intro ds h Q z
  try dsimp only [cxOf, Cx.nox, Cx.wish]
  obtain ⟨z, rfl, hz, k⟩ := z
  walk_at "dd"
  refine ite_b (fun hc => ?_) (fun hc => ?_)
  · walk_at "dd"
    refine ite_b (fun hd => ?_) (fun hd => ?_)
    · walk_at "dd"
      refine lc_map z.cps.toList (fun c => .str (one c)) (fun c => .bl (decide (c ∈ alphabet.cps.toList))) rfl (by rw [Array.length_toList]; exact Nat.le_trans hz (by decide)) .t ?_ (.f ?_)
      · intro p acc i c np ei
        walk_at "dd"
        rfl
      · walk_at "dd"
        refine v_all (bs := z.cps.toList.map fun c => decide (c ∈ alphabet.cps.toList)) (by rw [List.map_map]; exact .f) ?_
        walk_at "dd"
        rw [← isNm_yes hc hd]
        exact frz0 k
    · rw [isNm_no2 hd] at k
      exact frz0 k
  · walk_at "dd"
    refine ite_f rfl ?_
    rw [isNm_no1 hc] at k
    exact frz0 k
def tWord : TD := fun ds h Q => ∃ (a la : Addr) (n : Nat), ds = [.ref a, .int (n : Int)] ∧ n ≤ 1000 ∧ h a = some (.src la) ∧ ∀ cs : List Nat, cs.length = n → (∀ c ∈ cs, c ∈ alphabet.cps.toList) → Q (.str (txt cs)) h
theorem sc__law_word : FnScope ["_law_src", "_law_many", "_law_letters", "_law_sign", "_law_k"] ["_law_src", "_law_many"] (defScope s__law_word) :=
  ⟨rfl, rfl, rfl, by decide +kernel, rfl, by decide +kernel, by decide +kernel⟩
theorem ok__law_word (T : Txt K mg e) : FnG P w K mg base CX0 3 e.f__law_word e.d__law_word ["_law_src", "_law_many"] (spD (tWord)) := by
  refine okD T.F__law_word sc__law_word (fun ds h Q z => by obtain ⟨a, la, n, rfl, _⟩ := z; rfl) (fun cdv A outer s H E hG hr => ?_)
  refine ⟨_, (pss_cons (ps_set (i := 2) sc__law_word.nd rfl (by first | exact Or.inl rfl | exact Or.inr rfl) (pe_lc (own := [("_law_sign", 3)]) (g := (gName 3)) (tt := tYes) rfl sc__law_word.nd (pi_str pe_str) (blkOk_by (own := [("_law_sign", 3)]) (N := ["_law_src", "_law_many", "_law_letters", "_law_sign", "_law_k"]) (sc := defScope (top 41)) (by decide +kernel)) (fun _ _ _ _ _ => (pg_name (i := 3) sc__law_word.nd rfl (by first | exact Or.inl rfl | exact Or.inr rfl))) (fun _ _ _ _ _ => pts_nil) (fun _ _ _ _ _ => (pv 3))))
  (pss_one (ps_ret (pe_joinK (K := K) rfl pe_str (pe_lc (own := [("_law_k", 4)]) (g := (gName 4)) (tt := tYes) rfl sc__law_word.nd (pi_range1 (by rfl) T.n_range (pa_cons (pv 1) pa_nil)) (blkOk_by (own := [("_law_k", 4)]) (N := ["_law_src", "_law_many", "_law_letters", "_law_sign", "_law_k"]) (sc := defScope (top 41)) (by decide +kernel)) (fun _ _ _ _ _ => (pg_name (i := 4) sc__law_word.nd rfl (by first | exact Or.inl rfl | exact Or.inr rfl))) (fun _ _ _ _ _ => pts_nil) (fun _ _ _ _ _ => (pe_callG (ok__law_of T) hG (hr.mono (by decide)) (by rfl) T.g__law_of T.F__law_of.kp T.b__law_of .nil pass0 (pa_cons (pv 0) (pa_cons (pv 2) pa_nil))))))))), ?_⟩
  intro ds h Q z
  try dsimp only [cxOf, Cx.nox, Cx.wish]
  obtain ⟨a, la, n, rfl, hn, ea, k⟩ := z
  walk_at "dd"
  refine lc_map alphabet.cps.toList (fun c => .str (one c)) (fun c => .str (one c)) rfl (by decide +kernel) .t ?_ (.f ?_)
  · intro p acc i c np ei
    walk_at "dd"
    rfl
  · walk_at "dd"
    refine lc_rel (List.range n) (fun i => .int (i : Int)) (fun c => .str (one c)) (fun _ _ c => c ∈ alphabet.cps.toList) (rngD_nat n) (by rw [List.length_range]; omega) .t ?_ ?_
    · intro p acc i x np ei
      walk_at "dd"
      refine ⟨a, la, _, _, rfl, by walk_at "hc", .f, by decide +kernel, by decide +kernel, fun y hy => ?_⟩
      obtain ⟨c, hc, rfl⟩ := List.mem_map.mp hy
      walk_at "dd"
      exact ⟨c, rfl, hc⟩
    · intro cs hl hcs
      rw [List.length_range] at hl
      refine .f ?_
      refine v_join (zs := cs.map one) (.inl (by rw [List.map_map]; exact .f)) ?_ ?_
      · rw [ones_len, List.length_map, hl]
        show n + n * 0 ≤ _
        omega
      · have ej : Txt.join (Str.ofString "") (cs.map one) = txt cs := joined_ones cs
        rw [ej]
        refine frz0 (k cs hl fun c hc => ?_)
        obtain ⟨i, hi⟩ := List.getElem?_of_mem hc
        exact hcs i i c (by rw [List.getElem?_range]; have := (List.getElem?_eq_some_iff.mp hi).1; omega) hi
def tNames : TD := fun ds h Q => ∃ (a la : Addr) (n : Nat), ds = [.ref a, .int (n : Int)] ∧ n ≤ 26 ∧ h a = some (.src la) ∧ ∀ zs : List Str, zs.length = n → Names zs → Q (.lst (zs.map .str)) h
theorem sc__law_names : FnScope ["_law_src", "_law_many", "_law_letters", "_law_stem", "_law_at", "_law_sign"] ["_law_src", "_law_many"] (defScope s__law_names) :=
  ⟨rfl, rfl, rfl, by decide +kernel, rfl, by decide +kernel, by decide +kernel⟩
theorem ok__law_names (T : Txt K mg e) : FnG P w K mg base CX0 4 e.f__law_names e.d__law_names ["_law_src", "_law_many"] (spD (tNames)) := by
  refine okD T.F__law_names sc__law_names (fun ds h Q z => by obtain ⟨a, la, n, rfl, _⟩ := z; rfl) (fun cdv A outer s H E hG hr => ?_)
  refine ⟨_, (pss_cons (ps_set (i := 2) sc__law_names.nd rfl (by first | exact Or.inl rfl | exact Or.inr rfl) (pe_slice (sl_G (K := K) rfl) (pe_callG (ok__law_mixed T) hG (hr.mono (by decide)) (by rfl) T.g__law_mixed T.F__law_mixed.kp T.b__law_mixed .nil pass0 (pa_cons (pv 0) (pa_cons (pe_lc (own := [("_law_sign", 5)]) (g := (gName 5)) (tt := tYes) rfl sc__law_names.nd (pi_str pe_str) (blkOk_by (own := [("_law_sign", 5)]) (N := ["_law_src", "_law_many", "_law_letters", "_law_stem", "_law_at", "_law_sign"]) (sc := defScope (top 33)) (by decide +kernel)) (fun _ _ _ _ _ => (pg_name (i := 5) sc__law_names.nd rfl (by first | exact Or.inl rfl | exact Or.inr rfl))) (fun _ _ _ _ _ => pts_nil) (fun _ _ _ _ _ => (pv 5))) pa_nil))) po_none (po_some (pv 1))))
  (pss_cons (ps_set (i := 3) sc__law_names.nd rfl (by first | exact Or.inl rfl | exact Or.inr rfl) (pe_callG (ok__law_word T) hG (hr.mono (by decide)) (by rfl) T.g__law_word T.F__law_word.kp T.b__law_word .nil pass0 (pa_cons (pv 0) (pa_cons (pe_callG (ok__law_draw T) hG (hr.mono (by decide)) (by rfl) T.g__law_draw T.F__law_draw.kp T.b__law_draw .nil pass0 (pa_cons (pv 0) (pa_cons pe_int pa_nil))) pa_nil))))
  (pss_cons (ps_set (i := 4) sc__law_names.nd rfl (by first | exact Or.inl rfl | exact Or.inr rfl) (pe_callG (ok__law_draw T) hG (hr.mono (by decide)) (by rfl) T.g__law_draw T.F__law_draw.kp T.b__law_draw .nil pass0 (pa_cons (pv 0) (pa_cons (pe_op (op_addG (K := K) rfl) (pe_callB (call_lenA (K := K) rfl) (by rfl) T.n_len (by decide +kernel) (pa_cons (pv 3) pa_nil)) pe_int) pa_nil))))
  (pss_one (ps_ret (pe_lc (own := [("_law_sign", 5)]) (g := (gName 5)) (tt := tYes) rfl sc__law_names.nd (pi_seqK (K := K) rfl (pv 2)) (blkOk_by (own := [("_law_sign", 5)]) (N := ["_law_src", "_law_many", "_law_letters", "_law_stem", "_law_at", "_law_sign"]) (sc := defScope (top 33)) (by decide +kernel)) (fun _ _ _ _ _ => (pg_name (i := 5) sc__law_names.nd rfl (by first | exact Or.inl rfl | exact Or.inr rfl))) (fun _ _ _ _ _ => pts_nil) (fun _ _ _ _ _ => (pe_op (op_addG (K := K) rfl) (pe_op (op_addG (K := K) rfl) (pe_slice (sl_G (K := K) rfl) (pv 3) po_none (po_some (pv 4))) (pv 5)) (pe_slice (sl_G (K := K) rfl) (pv 3) (po_some (pv 4)) po_none))))))))), ?_⟩
  intro ds h Q z
  try dsimp only [cxOf, Cx.nox, Cx.wish]
  obtain ⟨a, la, n, rfl, hn, ea, k⟩ := z
  walk_at "dd"
  refine lc_map alphabet.cps.toList (fun c => .str (one c)) (fun c => .str (one c)) rfl (by decide +kernel) .t ?_ (.f ?_)
  · intro p acc i c np ei
    walk_at "dd"
    rfl
  · walk_at "dd"
    refine ⟨a, la, _, rfl, ea, by decide +kernel, fun ys py => .f ?_⟩
    obtain ⟨ls, rfl, pl⟩ := lts_of py
    walk_at "dd"
    refine ⟨a, la, 8, rfl, ea, by decide, by decide, fun m m0 m8 => ?_⟩
    obtain ⟨m', rfl⟩ := Int.eq_ofNat_of_zero_le m0
    walk_at "dd"
    refine ⟨a, la, m', rfl, by omega, ea, fun cs hcl hcs => ?_⟩
    have hz : (txt cs).length = cs.length := rfl
    walk_at "dd"
    refine ⟨a, la, _, rfl, ea, by omega, Int.lt_of_le_of_lt (b := 10) (by omega) (by decide), fun j j0 j1 => ?_⟩
    obtain ⟨j', rfl⟩ := Int.eq_ofNat_of_zero_le j0
    have hls : ls.length = 26 := by rw [pl.length_eq, Array.length_toList, alpha_len]
    walk_at "dd"
    rw [dcut_take, ← List.map_take]
    refine lc_map (ls.take n) (fun c => .str (one c)) (fun c => .str (txt (cs.take j' ++ [c] ++ cs.drop j'))) rfl (by rw [List.length_take]; omega) .t ?_ (.f ?_)
    · intro p acc i c np ei
      have l1 : (cutS (txt cs) none (some (j' : Int))).length ≤ 10 := by
        rw [cutS_take]
        show (cs.take j').length ≤ 10
        rw [List.length_take]
        omega
      have l2 : (cutS (txt cs) (some (j' : Int)) none).length ≤ 10 := by
        rw [cutS_drop]
        show (cs.drop j').length ≤ 10
        rw [List.length_drop]
        omega
      have l3 : (one c).length = 1 := rfl
      walk_at "dd"
      rw [cutS_take, cutS_drop]
      show D.str (txt (cs.take j') ++ txt [c] ++ txt (cs.drop j')) = _
      rw [txt_app, txt_app]
    · rw [map_map' (fun c => txt (cs.take j' ++ [c] ++ cs.drop j')) D.str]
      refine frz0 (k _ (by rw [List.length_map, List.length_take]; omega) (names_made cs _ j' (by omega) hcs ?_ ?_))
      · exact (pl.nodup_iff.mpr alpha_nd).sublist (List.take_sublist _ _)
      · intro c hc
        exact pl.mem_iff.mp (List.mem_of_mem_take hc)
end

end Toy

set_option Elab.async false
set_option linter.all false
set_option maxRecDepth 100000
set_option maxHeartbeats 4000000
namespace Toy
open PySem L2 GX PySem.Spec TL
/-! ### one step of a reading over data -/
local macro_rules | `(tactic| walk_at "d1") => `(tactic| with_reducible first
  | refine' d_seq ?_ | refine' d_asg ?_ | refine' d_retF ?_ | refine' d_retN ?_ | refine' d_drop ?_ | refine' d_next ?_ | refine' d_break ?_ | refine' d_cont ?_ | refine' d_ifS ?_ | refine' d_par ?_ | refine' d_pr ?_
  | refine' d_cInt ?_ | refine' d_cBl ?_ | refine' d_cStr ?_ | refine' d_cNon ?_ | refine' d_op ?_ | refine' d_un ?_ | refine' d_test ?_ | refine' d_B ?_ | refine' d_bl ?_
  | refine' d_and ?_ | refine' d_or ?_ | refine' d_not ?_ | refine' d_yes ?_ | refine' d_if ?_ | refine' d_andV ?_ | refine' d_orV ?_ | refine' d_notV ?_ | refine' d_chain ?_
  | refine' d_nil ?_ | refine' d_cons ?_ | refine' d_CB ?_ | refine' d_tup ?_ | refine' d_call ?_ | refine' d_fld ?_ | refine' d_sfld ?_ | refine' d_meth ?_ | refine' d_make ?_
  | refine' d_din ?_ | refine' d_dnin ?_ | refine' d_dget ?_ | refine' d_dput ?_ | refine' d_dsetd ?_ | refine' d_for ?_ | refine' d_lc ?_
  | refine' i_seq ?_ | refine' i_list ?_ | refine' i_tup ?_ | refine' i_str ?_ | refine' i_rng1 ?_ | refine' i_rng2 ?_ | refine' i_rng3 ?_ | refine' i_zip ?_ | refine' i_enum ?_
  | refine' d_sl ?_ | refine' d_part ?_ | refine' d_nopart ?_ | refine' d_M1 ?_ | refine' d_M0 ?_ | refine' x_part ?_ | refine' x_strE ?_ | refine' x_seqF ?_ | refine' x_seqT ?_ | refine' x_lstF ?_ | refine' x_isLf ?_
  | refine' ⟨_, g_name ?_⟩ | refine' g_name ?_ | refine' g_nil ?_ | refine' g_cons ?_ | refine' ⟨_, g_sub ?_⟩ | refine' x_same ?_ | refine' d_BML rfl ?_ | refine' d_BML0 rfl ?_)
local macro_rules | `(tactic| walk_at "dv") => `(tactic| ((with_reducible refine' d_var ?hv ?_); (case hv => rfl)))
/-- a cell's content -/
local macro_rules | `(tactic| walk_at "hn") => `(tactic| first
  | assumption | exact Ne.symm (by assumption)
  | ((refine' h_ne ?ha ?hb); (case hb => assumption); (case ha => walk_at "hc"))
  | ((refine' Ne.symm (h_ne ?ha ?hb)); (case hb => assumption); (case ha => walk_at "hc")))
local macro_rules | `(tactic| walk_at "hc") => `(tactic| first
  | assumption | exact seth_same
  | ((refine' (seth_ne ?hn).trans ?hh); (case hn => walk_at "hn"); (case hh => walk_at "hc")))
/-- a sequence seen -/
local macro_rules | `(tactic| walk_at "sq") => `(tactic| first
  | exact LsV.f | exact SqV.l | exact SqV.t | assumption | exact Or.inl (by assumption) | ((refine' LsV.c ?e0); (case e0 => walk_at "hc")) | ((refine' SqV.c ?e0); (case e0 => walk_at "hc")) | assumption)
local macro_rules | `(tactic| walk_at "lk") => `(tactic| first | (with_reducible exact lk0) | exact lkN | (refine lkS (by decide +kernel) ?_; walk_at "lk"))
local macro_rules | `(tactic| walk_at "iv") => `(tactic| first | exact InsV.f | assumption | ((refine' InsV.c ?e0); (case e0 => walk_at "hc")))
local macro_rules | `(tactic| walk_at "dk") => `(tactic| first | exact DkV.f | assumption | ((refine' DkV.c ?e0); (case e0 => walk_at "hc")))
local macro_rules | `(tactic| walk_at "cls") => `(tactic| first | assumption | exact Txt.c_Signature (by assumption) | exact Txt.a_Signature_entries (by assumption) | exact Txt.a_Signature_grouped (by assumption))
local macro_rules | `(tactic| walk_at "he") => `(tactic| first | rfl | assumption | exact atI_nat (by assumption) | exact atI_eq (by assumption) (by omega))
local macro_rules | `(tactic| walk_at "hl") => `(tactic| first | assumption | (simp only [List.length_map, List.length_append, List.length_cons, List.length_nil, List.length_replicate, strLen_append]; omega) | omega | decide)
local macro_rules | `(tactic| walk_at "dx") => `(tactic| first
  | ((with_reducible refine' d_aug ?hv ?_); (case hv => rfl))
  | ((with_reducible refine' ⟨_, g_tup ?hl ?_⟩); (case hl => rfl))
  | ((with_reducible refine' g_tup ?hl ?_); (case hl => rfl))
  | ((with_reducible refine' ⟨_, g_seqT ?hl ?_⟩); (case hl => rfl))
  | ((with_reducible refine' g_seqT ?hl ?_); (case hl => rfl))
  | ((with_reducible refine' ⟨_, g_seqL ?hx ?hl ?_⟩); (case hx => walk_at "sq"); (case hl => rfl))
  | ((with_reducible refine' g_seqL ?hx ?hl ?_); (case hx => walk_at "sq"); (case hl => rfl))
  | ((with_reducible refine' g_nameV ?hm ?_); (case hm => simp))
  | (with_reducible refine' g_consV ?_)
  | (with_reducible refine' g_nilV ?_)
  | ((with_reducible refine' x_seqC ?hs ?_); (case hs => walk_at "hc"))
  | ((with_reducible refine' x_lstC ?hs ?_); (case hs => walk_at "hc"))
  | ((with_reducible refine' x_isL ?hs ?_); (case hs => walk_at "hc"))
  | ((with_reducible refine' x_size ?hs ?_); (case hs => walk_at "hl"))
  | ((with_reducible refine' x_rg1 ?hs ?_); (case hs => constructor <;> first | omega | (simp only [List.length_map]; omega)))
  | ((with_reducible refine' x_rg2 ?hs ?_); (case hs => refine ⟨?_, ?_, ?_, ?_⟩ <;> first | omega | (simp only [List.length_map]; omega)))
  | (with_reducible refine' w_addI ?_)
  | ((with_reducible refine' w_mulI ?hc ?_); (case hc => first | assumption | exact cmul_small (by constructor <;> omega) (by constructor <;> omega)))
  | (with_reducible refine' v_I0i ?_)
  | (with_reducible refine' v_I0b ?_)
  | (with_reducible refine' v_Ui ?_)
  | (with_reducible refine' w_eqI ?_)
  | (with_reducible refine' w_eqS ?_)
  | (with_reducible refine' w_eqB ?_)
  | (with_reducible refine' w_neI ?_)
  | (with_reducible refine' w_neS ?_)
  | (with_reducible refine' w_neB ?_)
  | (with_reducible refine' v_isN ?_)
  | (with_reducible refine' v_notN ?_)
  | (with_reducible refine' w_inSign ?_)
  | ((with_reducible refine' w_inS ?hs ?_); (case hs => walk_at "sq"))
  | ((with_reducible refine' w_ninS ?hs ?_); (case hs => walk_at "sq"))
  | ((with_reducible refine' w_inI ?hs ?_); (case hs => walk_at "sq"))
  | ((with_reducible refine' w_ninI ?hs ?_); (case hs => walk_at "sq"))
  | ((with_reducible refine' w_addS ?hl ?_); (case hl => walk_at "hl"))
  | ((with_reducible refine' w_catT ?hl ?_); (case hl => walk_at "hl"))
  | ((with_reducible refine' w_slS ?hl ?_); (case hl => walk_at "hl"))
  | (with_reducible refine' w_slT ?_)
  | ((with_reducible refine' w_slL ?hs (.f ?_)); (case hs => walk_at "sq"))
  | ((with_reducible refine' w_lenS ?hl ?_); (case hl => walk_at "hl"))
  | ((with_reducible refine' w_len ?hs ?_); (case hs => walk_at "sq"))
  | ((with_reducible refine' w_lenD ?hs ?_); (case hs => walk_at "dk"))
  | ((with_reducible refine' v_tupOf ?hs ?_); (case hs => walk_at "sq"))
  | ((with_reducible refine' w_list ?hs (.f ?_)); (case hs => walk_at "sq"))
  | ((with_reducible refine' v_sum ?hs ?_); (case hs => walk_at "sq"))
  | ((with_reducible refine' v_all ?hs ?_); (case hs => walk_at "sq"))
  | ((with_reducible refine' v_any ?hs ?_); (case hs => walk_at "sq"))
  | (with_reducible refine' v_max2 ?_)
  | (with_reducible refine' v_min2 ?_)
  | (with_reducible refine' v_int1 ?_)
  | (with_reducible refine' v_int1b ?_)
  | (with_reducible refine' v_abs ?_)
  | ((with_reducible refine' w_ixT ?he ?_); (case he => walk_at "he"))
  | ((with_reducible refine' w_ixL ?hs ?he ?_); (case hs => walk_at "sq"); (case he => walk_at "he"))
  | ((with_reducible refine' v_app ?hs ?hl ?_); (case hs => walk_at "hc"); (case hl => walk_at "hl"))
  | ((with_reducible refine' v_insert ?hs ?hl ?h0 ?_); (case hs => walk_at "hc"); (case hl => walk_at "hl"); (case h0 => constructor <;> omega))
  | ((with_reducible refine' x_fldV ?hi ?hc ?hn ?hl ?_); (case hi => walk_at "iv"); (case hc => walk_at "cls"); (case hn => walk_at "cls"); (case hl => walk_at "lk"))
  | ((with_reducible refine' x_methV ?hi ?hl ?_); (case hi => walk_at "iv"); (case hl => walk_at "lk"))
  | ((with_reducible refine' x_sfldC ?hs ?hc ?hn ?hl ?_); (case hs => walk_at "hc"); (case hc => walk_at "cls"); (case hn => walk_at "cls"); (case hl => first | simp | (refine Nat.lt_of_le_of_lt putFD_len ?_; simp) | (refine Nat.lt_of_le_of_lt putFD_len (Nat.lt_of_le_of_lt (Nat.succ_le_succ putFD_len) ?_); simp)))
  | ((with_reducible refine' x_inS ?hs ?_); (case hs => walk_at "dk"))
  | ((with_reducible refine' x_inI ?hs ?_); (case hs => walk_at "dk"))
  | ((with_reducible refine' x_getS ?hs ?he ?_); (case hs => walk_at "dk"); (case he => assumption))
  | ((with_reducible refine' x_getI ?hs ?he ?_); (case hs => walk_at "dk"); (case he => assumption))
  | ((with_reducible refine' x_putS ?hs ?hl ?_); (case hs => walk_at "hc"); (case hl => walk_at "hl"))
  | ((with_reducible refine' x_putI ?hs ?hl ?_); (case hs => walk_at "hc"); (case hl => walk_at "hl"))
  | ((with_reducible refine' x_isK ?hs ?_); (case hs => walk_at "dk"))
  | ((with_reducible refine' x_isDV ?hs ?_); (case hs => walk_at "dk")))
local macro_rules | `(tactic| walk_at "dd") => `(tactic| repeat' (first | walk_at "d1" | walk_at "dv" | walk_at "dx"))

/-! ### names wanted, finite kinds -/
section
variable {P : Program} {w : World} {K : PySem.W.Frag} {mg : Str → Option Value} {base : Heap} {e : Env}
def tNeedName : TD := fun ds h Q => ∃ z : Str, ds = [.str z] ∧ z.length ≤ 1000 ∧ isNm z = true ∧ Q .non h
theorem sc_need_name : FnScope ["text"] ["text"] (defScope s_need_name) :=
  ⟨rfl, rfl, rfl, by decide +kernel, rfl, by decide +kernel, by decide +kernel⟩
theorem ok_need_name (T : Txt K mg e) : FnG P w K mg base CX0 2 e.f_need_name e.d_need_name ["text"] (spD (tNeedName)) := by
  refine okD T.F_need_name sc_need_name (fun ds h Q z => by obtain ⟨z, rfl, _⟩ := z; rfl) (fun cdv A outer s H E hG hr => ?_)
  refine ⟨_, (pss_one (ps_if (pt_not (pt_val (pe_callG (ok_is_name T) hG (hr.mono (by decide)) (by rfl) T.g_is_name T.F_is_name.kp T.b_is_name .nil pass0 (pa_cons (pv 0) pa_nil))))
    (pss_one ps_never)
    pss_nil)), ?_⟩
  intro ds h Q z
  try dsimp only [cxOf, Cx.nox, Cx.wish]
  obtain ⟨z, rfl, hz, hm, k⟩ := z
  walk_at "dd"
  refine ⟨z, rfl, hz, ?_⟩
  walk_at "dd"
  rw [hm]
  refine ite_f rfl ?_
  walk_at "dd"
  exact k
def tFinite : TD := fun ds h Q => ∃ ts : List Trip, ds = [.lst (ts.map trD)] ∧ ts.length ≤ 1000 ∧ (∀ t ∈ ts, t.2.2.length ≤ 1000) ∧
  ∀ r : List Str, Closed ts r → (∀ k ∈ r, k ∈ kindsOf ts) → (∀ s, Closed ts s → ∀ k ∈ r, k ∈ s) → Q (.lst (strsD r)) h
theorem sc_finite_kinds : FnScope ["triples", "found", "changed", "constructor", "kind", "parts", "part"] ["triples"] (defScope s_finite_kinds) :=
  ⟨rfl, rfl, rfl, by decide +kernel, rfl, by decide +kernel, by decide +kernel⟩
theorem ok_finite_kinds (T : Txt K mg e) : FnG P w K mg base CX0 1 e.f_finite_kinds e.d_finite_kinds ["triples"] (spD (tFinite)) := by
  refine okD T.F_finite_kinds sc_finite_kinds (fun ds h Q z => by obtain ⟨ts, rfl, _⟩ := z; rfl) (fun cdv A outer s H E hG hr => ?_)
  refine ⟨_, (pss_cons (ps_asg (pe_tup (pa_cons (pe_lst pa_nil) (pa_cons pe_bl pa_nil))) (pg_seqK (K := K) rfl rfl (pgs_cons (pg_name (i := 1) sc_finite_kinds.nd rfl (by first | exact Or.inl rfl | exact Or.inr rfl)) (pgs_cons (pg_name (i := 2) sc_finite_kinds.nd rfl (by first | exact Or.inl rfl | exact Or.inr rfl)) pgs_nil))))
  (pss_cons (ps_while PassesOwn.never (pt_val (pv 2))
    (pss_cons (ps_set (i := 2) sc_finite_kinds.nd rfl (by first | exact Or.inl rfl | exact Or.inr rfl) pe_bl)
      (pss_one (ps_for PassesOwn.never rfl (pi_seqK (K := K) rfl (pv 0)) (pg_seqK (K := K) rfl rfl (pgs_cons (pg_name (i := 3) sc_finite_kinds.nd rfl (by first | exact Or.inl rfl | exact Or.inr rfl)) (pgs_cons (pg_name (i := 4) sc_finite_kinds.nd rfl (by first | exact Or.inl rfl | exact Or.inr rfl)) (pgs_cons (pg_name (i := 5) sc_finite_kinds.nd rfl (by first | exact Or.inl rfl | exact Or.inr rfl)) pgs_nil))))
        (pss_one (ps_if (PW.pt (pw_and (pt_cmpR (op_ninG (K := K) rfl (units65 hr)) (pv 4) (pv 1) (by rfl)) (pw_and1 (pt_val (pe_callB (cr_allK (K := K) rfl rfl) (by rfl) T.n_all (by decide +kernel) (pa_cons (pe_lc (own := [("part", 6)]) (g := (gName 6)) (tt := tYes) rfl sc_finite_kinds.nd (pi_seqK (K := K) rfl (pv 5)) (blkOk_by (own := [("part", 6)]) (N := ["triples", "found", "changed", "constructor", "kind", "parts", "part"]) (sc := defScope (top 26)) (by decide +kernel)) (fun _ _ _ _ _ => (pg_name (i := 6) sc_finite_kinds.nd rfl (by first | exact Or.inl rfl | exact Or.inr rfl))) (fun _ _ _ _ _ => pts_nil) (fun _ _ _ _ _ => (pe_cmpR (op_inG (K := K) rfl (units65 hr)) (pv 6) (pv 1) (by rfl)))) pa_nil))))))
            (pss_cons (ps_expr (pe_bmK (K := K) rfl PySem.F.plainAttrs_list PySem.F.slot_list_append PySem.F.type_list_append mt_app (pv 1) (pa_cons (pv 4) pa_nil)))
              (pss_one (ps_set (i := 2) sc_finite_kinds.nd rfl (by first | exact Or.inl rfl | exact Or.inr rfl) pe_bl)))
            pss_nil))))))
  (pss_one (ps_ret (pv 1))))), ?_⟩
  intro ds h Q z
  try dsimp only [cxOf, Cx.nox, Cx.wish]
  obtain ⟨ts, rfl, hz, hparts, k⟩ := z
  walk_at "dd"
  refine d_lstC (d_nil ⟨by decide, fun f nf => ?_⟩)
  walk_at "dd"
  refine while_D [3, 4, 5] (fun m ρ h' => ∃ (ch : Bool) (r : List Str), ρ = [some (.lst (ts.map trD)), some (.ref f), some (.bl ch), none, none, none, none] ∧ h' = seth h f (.lst (strsD r)) ∧
    (∀ k ∈ r, k ∈ kindsOf ts) ∧ (∀ s, Closed ts s → ∀ k ∈ r, k ∈ s) ∧ (ch = true → m = left ts r + 1) ∧ (ch = false → Closed ts r) ∧ r.length + left ts r ≤ 1000) (left ts [] + 1) ?_ ?_
  · refine ⟨true, [], rfl, rfl, fun _ h => (List.not_mem_nil h).elim, fun _ _ _ h => (List.not_mem_nil h).elim, fun _ => rfl, (fun h => by cases h), ?_⟩
    have h1 := List.length_filter_le (fun k => decide (k ∉ ([] : List Str))) (kindsOf ts)
    have h2 := kinds_le ts
    show 0 + ((kindsOf ts).filter fun k => decide (k ∉ ([] : List Str))).length ≤ 1000
    omega
  · rintro m ρ h' ⟨ch, r, rfl, rfl, hk, hmin, hm, hcl, hb⟩
    walk_at "dd"
    refine ite_b (fun hc => ?_) (fun hc => ?_)
    · have em := hm hc
      walk_at "dd"
      refine for_D [3, 4, 5] ts trD rfl (fun i ρ h' => ∃ (ch2 : Bool) (r2 : List Str), ρ = [some (.lst (ts.map trD)), some (.ref f), some (.bl ch2), none, none, none, none] ∧ h' = seth h f (.lst (strsD r2)) ∧
        (∀ k ∈ r2, k ∈ kindsOf ts) ∧ (∀ s, Closed ts s → ∀ k ∈ r2, k ∈ s) ∧ r2.length + left ts r2 ≤ 1000 ∧
        (ch2 = true → left ts r2 < left ts r) ∧ (ch2 = false → r2 = r ∧ ∀ (j : Nat) t, j < i → ts[j]? = some t → (∀ p ∈ t.2.2, p ∈ r) → t.2.1 ∈ r)) ?_ ?_ ?_ ?_
      · exact ⟨false, r, rfl, rfl, hk, hmin, hb, fun h => (by cases h), fun _ => ⟨rfl, fun j t h => absurd h (Nat.not_lt_zero _)⟩⟩
      · rintro i ρ h' _ _
        trivial
      · rintro i t ρ h' et ⟨ch2, r2, rfl, rfl, hk2, hmin2, hlen, ht2, hn2⟩
        have tm : t ∈ ts := List.mem_of_getElem? et
        walk_at "dd"
        have skip : t.2.1 ∈ r2 ∨ (¬ ∀ p ∈ t.2.2, p ∈ r2) → ∃ (ch2' : Bool) (r2' : List Str), ([some (D.lst (ts.map trD)), some (.ref f), some (.bl ch2), none, none, none, none] : Rho) = [some (.lst (ts.map trD)), some (.ref f), some (.bl ch2'), none, none, none, none] ∧ seth h f (.lst (strsD r2)) = seth h f (.lst (strsD r2')) ∧
            (∀ k ∈ r2', k ∈ kindsOf ts) ∧ (∀ s, Closed ts s → ∀ k ∈ r2', k ∈ s) ∧ r2'.length + left ts r2' ≤ 1000 ∧
            (ch2' = true → left ts r2' < left ts r) ∧ (ch2' = false → r2' = r ∧ ∀ (j : Nat) t, j < i + 1 → ts[j]? = some t → (∀ p ∈ t.2.2, p ∈ r) → t.2.1 ∈ r) := by
          intro hsk
          refine ⟨ch2, r2, rfl, rfl, hk2, hmin2, hlen, ht2, fun hc => ⟨(hn2 hc).1, fun j u hj eu hu => ?_⟩⟩
          obtain ⟨er, hall⟩ := hn2 hc
          rcases Nat.lt_succ_iff_lt_or_eq.mp hj with h | h
          · exact hall j u h eu hu
          · subst h
            rw [et] at eu
            cases eu
            rw [er] at hsk
            rcases hsk with h | h
            · exact h
            · exact absurd hu h
        refine ite_b (fun hc2 => ?_) (fun hc2 => ?_)
        · walk_at "dd"
          have nin : t.2.1 ∉ r2 := by simpa using hc2
          refine lc_map t.2.2 D.str (fun p => .bl (decide (p ∈ r2))) rfl (by have := hparts t tm; omega) .t ?_ (.f ?_)
          · intro p acc j z np ez
            walk_at "dd"
            rfl
          · walk_at "dd"
            refine v_all (bs := t.2.2.map fun p => decide (p ∈ r2)) (by rw [List.map_map]; exact .f) ?_
            walk_at "dd"
            rw [List.all_map]
            refine ite_b (fun hall => ?_) (fun hall => ?_)
            · have hin : ∀ p ∈ t.2.2, p ∈ r2 := fun p hp => by simpa using List.all_eq_true.mp hall p hp
              have z := left_less ((mem_kindsOf ts _).mpr ⟨t, tm, rfl⟩) nin
              walk_at "dd"
              refine ⟨true, r2 ++ [t.2.1], rfl, by rw [seth_seth]; show _ = seth h f (.lst ((r2 ++ [t.2.1]).map D.str)); rw [List.map_append]; rfl, ?_, ?_, ?_, fun _ => ?_, fun h => (by cases h)⟩
              · intro k hk'
                rcases List.mem_append.mp hk' with h | h
                · exact hk2 k h
                · rw [List.mem_singleton.mp h]
                  exact (mem_kindsOf ts _).mpr ⟨t, tm, rfl⟩
              · intro s cs k hk'
                rcases List.mem_append.mp hk' with h | h
                · exact hmin2 s cs k h
                · rw [List.mem_singleton.mp h]
                  exact cs t tm fun p hp => hmin2 s cs p (hin p hp)
              · rw [List.length_append]
                show r2.length + 1 + _ ≤ _
                omega
              · have : left ts r2 ≤ left ts r := by
                  cases ch2 with
                  | true => exact Nat.le_of_lt (ht2 rfl)
                  | false => rw [(hn2 rfl).1]; exact Nat.le_refl _
                omega
            · walk_at "dd"
              refine skip (.inr fun hin => ?_)
              have : (t.2.2.all (id ∘ fun p => decide (p ∈ r2))) = true := List.all_eq_true.mpr fun p hp => decide_eq_true (hin p hp)
              rw [this] at hall
              cases hall
        · refine ite_f rfl ?_
          walk_at "dd"
          exact skip (.inl (by simpa using hc2))
      · rintro ρ h' ⟨ch2, r2, rfl, rfl, hk2, hmin2, hlen, ht2, hn2⟩
        walk_at "dd"
        cases ch2 with
        | true =>
          have := ht2 rfl
          exact ⟨left ts r2 + 1, by omega, true, r2, rfl, rfl, hk2, hmin2, fun _ => rfl, (fun h => by cases h), hlen⟩
        | false =>
          obtain ⟨rfl, hall⟩ := hn2 rfl
          refine ⟨0, by omega, false, r2, rfl, rfl, hk2, hmin2, fun h => (by cases h), fun _ t ht hp => ?_, hlen⟩
          obtain ⟨j, hj, ej⟩ := List.mem_iff_getElem.mp ht
          exact hall j t hj (by rw [← ej]; simp [hj]) hp
    · walk_at "dd"
      exact Fresh.frz (.f (k r (hcl hc) hk hmin)) nf
end

end Toy

set_option Elab.async false
set_option linter.all false
set_option maxRecDepth 100000
set_option maxHeartbeats 4000000
namespace Toy
open PySem L2 GX PySem.Spec TL
/-! ### one step of a reading over data -/
local macro_rules | `(tactic| walk_at "d1") => `(tactic| with_reducible first
  | refine' d_seq ?_ | refine' d_asg ?_ | refine' d_retF ?_ | refine' d_retN ?_ | refine' d_drop ?_ | refine' d_next ?_ | refine' d_break ?_ | refine' d_cont ?_ | refine' d_ifS ?_ | refine' d_par ?_ | refine' d_pr ?_
  | refine' d_cInt ?_ | refine' d_cBl ?_ | refine' d_cStr ?_ | refine' d_cNon ?_ | refine' d_op ?_ | refine' d_un ?_ | refine' d_test ?_ | refine' d_B ?_ | refine' d_bl ?_
  | refine' d_and ?_ | refine' d_or ?_ | refine' d_not ?_ | refine' d_yes ?_ | refine' d_if ?_ | refine' d_andV ?_ | refine' d_orV ?_ | refine' d_notV ?_ | refine' d_chain ?_
  | refine' d_nil ?_ | refine' d_cons ?_ | refine' d_CB ?_ | refine' d_tup ?_ | refine' d_call ?_ | refine' d_fld ?_ | refine' d_sfld ?_ | refine' d_meth ?_ | refine' d_make ?_
  | refine' d_din ?_ | refine' d_dnin ?_ | refine' d_dget ?_ | refine' d_dput ?_ | refine' d_dsetd ?_ | refine' d_for ?_ | refine' d_lc ?_
  | refine' i_seq ?_ | refine' i_list ?_ | refine' i_tup ?_ | refine' i_str ?_ | refine' i_rng1 ?_ | refine' i_rng2 ?_ | refine' i_rng3 ?_ | refine' i_zip ?_ | refine' i_enum ?_
  | refine' d_sl ?_ | refine' d_part ?_ | refine' d_nopart ?_ | refine' d_M1 ?_ | refine' d_M0 ?_ | refine' x_part ?_ | refine' x_strE ?_ | refine' x_seqF ?_ | refine' x_seqT ?_ | refine' x_lstF ?_ | refine' x_isLf ?_
  | refine' ⟨_, g_name ?_⟩ | refine' g_name ?_ | refine' g_nil ?_ | refine' g_cons ?_ | refine' ⟨_, g_sub ?_⟩ | refine' x_same ?_ | refine' d_BML rfl ?_ | refine' d_BML0 rfl ?_)
local macro_rules | `(tactic| walk_at "dv") => `(tactic| ((with_reducible refine' d_var ?hv ?_); (case hv => rfl)))
/-- a cell's content -/
local macro_rules | `(tactic| walk_at "hn") => `(tactic| first
  | assumption | exact Ne.symm (by assumption)
  | ((refine' h_ne ?ha ?hb); (case hb => assumption); (case ha => walk_at "hc"))
  | ((refine' Ne.symm (h_ne ?ha ?hb)); (case hb => assumption); (case ha => walk_at "hc")))
local macro_rules | `(tactic| walk_at "hc") => `(tactic| first
  | assumption | exact seth_same
  | ((refine' (seth_ne ?hn).trans ?hh); (case hn => walk_at "hn"); (case hh => walk_at "hc")))
/-- a sequence seen -/
local macro_rules | `(tactic| walk_at "sq") => `(tactic| first
  | exact LsV.f | exact SqV.l | exact SqV.t | assumption | exact Or.inl (by assumption) | ((refine' LsV.c ?e0); (case e0 => walk_at "hc")) | ((refine' SqV.c ?e0); (case e0 => walk_at "hc")) | assumption)
local macro_rules | `(tactic| walk_at "lk") => `(tactic| first | (with_reducible exact lk0) | exact lkN | (refine lkS (by decide +kernel) ?_; walk_at "lk"))
local macro_rules | `(tactic| walk_at "iv") => `(tactic| first | exact InsV.f | assumption | ((refine' InsV.c ?e0); (case e0 => walk_at "hc")))
local macro_rules | `(tactic| walk_at "dk") => `(tactic| first | exact DkV.f | assumption | ((refine' DkV.c ?e0); (case e0 => walk_at "hc")))
local macro_rules | `(tactic| walk_at "cls") => `(tactic| first | assumption | exact Txt.c_Signature (by assumption) | exact Txt.a_Signature_entries (by assumption) | exact Txt.a_Signature_grouped (by assumption))
local macro_rules | `(tactic| walk_at "he") => `(tactic| first | rfl | assumption | exact atI_nat (by assumption) | exact atI_eq (by assumption) (by omega))
local macro_rules | `(tactic| walk_at "hl") => `(tactic| first | assumption | (simp only [List.length_map, List.length_append, List.length_cons, List.length_nil, List.length_replicate, strLen_append]; omega) | omega | decide)
local macro_rules | `(tactic| walk_at "dx") => `(tactic| first
  | ((with_reducible refine' d_aug ?hv ?_); (case hv => rfl))
  | ((with_reducible refine' ⟨_, g_tup ?hl ?_⟩); (case hl => rfl))
  | ((with_reducible refine' g_tup ?hl ?_); (case hl => rfl))
  | ((with_reducible refine' ⟨_, g_seqT ?hl ?_⟩); (case hl => rfl))
  | ((with_reducible refine' g_seqT ?hl ?_); (case hl => rfl))
  | ((with_reducible refine' ⟨_, g_seqL ?hx ?hl ?_⟩); (case hx => walk_at "sq"); (case hl => rfl))
  | ((with_reducible refine' g_seqL ?hx ?hl ?_); (case hx => walk_at "sq"); (case hl => rfl))
  | ((with_reducible refine' g_nameV ?hm ?_); (case hm => simp))
  | (with_reducible refine' g_consV ?_)
  | (with_reducible refine' g_nilV ?_)
  | ((with_reducible refine' x_seqC ?hs ?_); (case hs => walk_at "hc"))
  | ((with_reducible refine' x_lstC ?hs ?_); (case hs => walk_at "hc"))
  | ((with_reducible refine' x_isL ?hs ?_); (case hs => walk_at "hc"))
  | ((with_reducible refine' x_size ?hs ?_); (case hs => walk_at "hl"))
  | ((with_reducible refine' x_rg1 ?hs ?_); (case hs => constructor <;> first | omega | (simp only [List.length_map]; omega)))
  | ((with_reducible refine' x_rg2 ?hs ?_); (case hs => refine ⟨?_, ?_, ?_, ?_⟩ <;> first | omega | (simp only [List.length_map]; omega)))
  | (with_reducible refine' w_addI ?_)
  | ((with_reducible refine' w_mulI ?hc ?_); (case hc => first | assumption | exact cmul_small (by constructor <;> omega) (by constructor <;> omega)))
  | (with_reducible refine' v_I0i ?_)
  | (with_reducible refine' v_I0b ?_)
  | (with_reducible refine' v_Ui ?_)
  | (with_reducible refine' w_eqI ?_)
  | (with_reducible refine' w_eqS ?_)
  | (with_reducible refine' w_eqB ?_)
  | (with_reducible refine' w_neI ?_)
  | (with_reducible refine' w_neS ?_)
  | (with_reducible refine' w_neB ?_)
  | (with_reducible refine' v_isN ?_)
  | (with_reducible refine' v_notN ?_)
  | (with_reducible refine' w_inSign ?_)
  | ((with_reducible refine' w_inS ?hs ?_); (case hs => walk_at "sq"))
  | ((with_reducible refine' w_ninS ?hs ?_); (case hs => walk_at "sq"))
  | ((with_reducible refine' w_inI ?hs ?_); (case hs => walk_at "sq"))
  | ((with_reducible refine' w_ninI ?hs ?_); (case hs => walk_at "sq"))
  | ((with_reducible refine' w_addS ?hl ?_); (case hl => walk_at "hl"))
  | ((with_reducible refine' w_catT ?hl ?_); (case hl => walk_at "hl"))
  | ((with_reducible refine' w_slS ?hl ?_); (case hl => walk_at "hl"))
  | (with_reducible refine' w_slT ?_)
  | ((with_reducible refine' w_slL ?hs (.f ?_)); (case hs => walk_at "sq"))
  | ((with_reducible refine' w_lenS ?hl ?_); (case hl => walk_at "hl"))
  | ((with_reducible refine' w_len ?hs ?_); (case hs => walk_at "sq"))
  | ((with_reducible refine' w_lenD ?hs ?_); (case hs => walk_at "dk"))
  | ((with_reducible refine' v_tupOf ?hs ?_); (case hs => walk_at "sq"))
  | ((with_reducible refine' w_list ?hs (.f ?_)); (case hs => walk_at "sq"))
  | ((with_reducible refine' v_sum ?hs ?_); (case hs => walk_at "sq"))
  | ((with_reducible refine' v_all ?hs ?_); (case hs => walk_at "sq"))
  | ((with_reducible refine' v_any ?hs ?_); (case hs => walk_at "sq"))
  | (with_reducible refine' v_max2 ?_)
  | (with_reducible refine' v_min2 ?_)
  | (with_reducible refine' v_int1 ?_)
  | (with_reducible refine' v_int1b ?_)
  | (with_reducible refine' v_abs ?_)
  | ((with_reducible refine' w_ixT ?he ?_); (case he => walk_at "he"))
  | ((with_reducible refine' w_ixL ?hs ?he ?_); (case hs => walk_at "sq"); (case he => walk_at "he"))
  | ((with_reducible refine' v_app ?hs ?hl ?_); (case hs => walk_at "hc"); (case hl => walk_at "hl"))
  | ((with_reducible refine' v_insert ?hs ?hl ?h0 ?_); (case hs => walk_at "hc"); (case hl => walk_at "hl"); (case h0 => constructor <;> omega))
  | ((with_reducible refine' x_fldV ?hi ?hc ?hn ?hl ?_); (case hi => walk_at "iv"); (case hc => walk_at "cls"); (case hn => walk_at "cls"); (case hl => walk_at "lk"))
  | ((with_reducible refine' x_methV ?hi ?hl ?_); (case hi => walk_at "iv"); (case hl => walk_at "lk"))
  | ((with_reducible refine' x_sfldC ?hs ?hc ?hn ?hl ?_); (case hs => walk_at "hc"); (case hc => walk_at "cls"); (case hn => walk_at "cls"); (case hl => first | simp | (refine Nat.lt_of_le_of_lt putFD_len ?_; simp) | (refine Nat.lt_of_le_of_lt putFD_len (Nat.lt_of_le_of_lt (Nat.succ_le_succ putFD_len) ?_); simp)))
  | ((with_reducible refine' x_inS ?hs ?_); (case hs => walk_at "dk"))
  | ((with_reducible refine' x_inI ?hs ?_); (case hs => walk_at "dk"))
  | ((with_reducible refine' x_getS ?hs ?he ?_); (case hs => walk_at "dk"); (case he => assumption))
  | ((with_reducible refine' x_getI ?hs ?he ?_); (case hs => walk_at "dk"); (case he => assumption))
  | ((with_reducible refine' x_putS ?hs ?hl ?_); (case hs => walk_at "hc"); (case hl => walk_at "hl"))
  | ((with_reducible refine' x_putI ?hs ?hl ?_); (case hs => walk_at "hc"); (case hl => walk_at "hl"))
  | ((with_reducible refine' x_isK ?hs ?_); (case hs => walk_at "dk"))
  | ((with_reducible refine' x_isDV ?hs ?_); (case hs => walk_at "dk")))
local macro_rules | `(tactic| walk_at "dd") => `(tactic| repeat' (first | walk_at "d1" | walk_at "dv" | walk_at "dx"))

/-! ### a signature's questions -/
section
variable {P : Program} {w : World} {K : PySem.W.Frag} {mg : Str → Option Value} {base : Heap} {e : Env}
def tHas (C : Addr) : TD := fun ds h Q => ∃ (x : D) (ts : List Trip) (en gr : D) (L : Str → D) (c : Str), ds = [x, .str c] ∧ SigV h C x ts en gr L ∧ (ts.map (·.1)).Nodup ∧ Q (.bl (decide (c ∈ ts.map (·.1)))) h
theorem sc_Signature_has : FnScope ["self", "constructor"] ["self", "constructor"] (defScope s_Signature_has) :=
  ⟨rfl, rfl, rfl, by decide +kernel, rfl, by decide +kernel, by decide +kernel⟩
theorem ok_Signature_has (T : Txt K mg e) : FnG P w K mg base CX0 1 e.f_Signature_has e.d_Signature_has ["self", "constructor"] (spD (tHas e.C_Signature)) := by
  refine okD T.F_Signature_has sc_Signature_has (fun ds h Q z => by obtain ⟨x, ts, en, gr, L, c, rfl, _⟩ := z; rfl) (fun cdv A outer s H E hG hr => ?_)
  refine ⟨_, (pss_one (ps_ret (pe_cmp (pc_din (hu_of hr) (pv 1) (pe_fldK (K := K) rfl (pv 0) rfl)) rfl))), ?_⟩
  intro ds h Q z
  try dsimp only [cxOf, Cx.nox, Cx.wish]
  obtain ⟨x, ts, en, gr, L, c, rfl, sv, nd, k⟩ := z
  have h1 := sv.i
  have h2 := sv.en
  walk_at "dd"
  rw [entK_isSome nd]
  exact frz0 k
def tNeedKind (C : Addr) : TD := fun ds h Q => ∃ (x : D) (ts : List Trip) (en gr : D) (L : Str → D) (k : Str), ds = [x, .str k] ∧ SigV h C x ts en gr L ∧ k ∈ kindsOf ts ∧ Q .non h
theorem sc_Signature_need_kind : FnScope ["self", "kind"] ["self", "kind"] (defScope s_Signature_need_kind) :=
  ⟨rfl, rfl, rfl, by decide +kernel, rfl, by decide +kernel, by decide +kernel⟩
theorem ok_Signature_need_kind (T : Txt K mg e) : FnG P w K mg base CX0 1 e.f_Signature_need_kind e.d_Signature_need_kind ["self", "kind"] (spD (tNeedKind e.C_Signature)) := by
  refine okD T.F_Signature_need_kind sc_Signature_need_kind (fun ds h Q z => by obtain ⟨x, ts, en, gr, L, c, rfl, _⟩ := z; rfl) (fun cdv A outer s H E hG hr => ?_)
  refine ⟨_, (pss_one (ps_if (pt_cmp (pc_dnotin (hu_of hr) (pv 1) (pe_fldK (K := K) rfl (pv 0) rfl)))
    (pss_one ps_never)
    pss_nil)), ?_⟩
  intro ds h Q z
  try dsimp only [cxOf, Cx.nox, Cx.wish]
  obtain ⟨x, ts, en, gr, L, c, rfl, sv, hk, k⟩ := z
  have h1 := sv.i
  have h2 := sv.gr
  walk_at "dd"
  rw [grpL_isSome, decide_eq_true hk]
  refine ite_f rfl ?_
  walk_at "dd"
  exact k
def tNeedCon (C : Addr) : TD := fun ds h Q => ∃ (x : D) (ts : List Trip) (en gr : D) (L : Str → D) (c : Str), ds = [x, .str c] ∧ SigV h C x ts en gr L ∧ (ts.map (·.1)).Nodup ∧ c ∈ ts.map (·.1) ∧ Q .non h
theorem sc_Signature_need_constructor : FnScope ["self", "constructor"] ["self", "constructor"] (defScope s_Signature_need_constructor) :=
  ⟨rfl, rfl, rfl, by decide +kernel, rfl, by decide +kernel, by decide +kernel⟩
theorem ok_Signature_need_constructor (T : Txt K mg e) : FnG P w K mg base CX0 1 e.f_Signature_need_constructor e.d_Signature_need_constructor ["self", "constructor"] (spD (tNeedCon e.C_Signature)) := by
  refine okD T.F_Signature_need_constructor sc_Signature_need_constructor (fun ds h Q z => by obtain ⟨x, ts, en, gr, L, c, rfl, _⟩ := z; rfl) (fun cdv A outer s H E hG hr => ?_)
  refine ⟨_, (pss_one (ps_if (pt_cmp (pc_dnotin (hu_of hr) (pv 1) (pe_fldK (K := K) rfl (pv 0) rfl)))
    (pss_one ps_never)
    pss_nil)), ?_⟩
  intro ds h Q z
  try dsimp only [cxOf, Cx.nox, Cx.wish]
  obtain ⟨x, ts, en, gr, L, c, rfl, sv, nd, hc, k⟩ := z
  have h1 := sv.i
  have h2 := sv.en
  walk_at "dd"
  rw [entK_isSome nd, decide_eq_true hc]
  refine ite_f rfl ?_
  walk_at "dd"
  exact k
def tKindOf (C : Addr) : TD := fun ds h Q => ∃ (x : D) (ts : List Trip) (en gr : D) (L : Str → D) (t : Trip), ds = [x, .str t.1] ∧ SigV h C x ts en gr L ∧ (ts.map (·.1)).Nodup ∧ t ∈ ts ∧ Q (.str t.2.1) h
theorem sc_Signature_kind_of : FnScope ["self", "constructor"] ["self", "constructor"] (defScope s_Signature_kind_of) :=
  ⟨rfl, rfl, rfl, by decide +kernel, rfl, by decide +kernel, by decide +kernel⟩
theorem ok_Signature_kind_of (T : Txt K mg e) : FnG P w K mg base CX0 2 e.f_Signature_kind_of e.d_Signature_kind_of ["self", "constructor"] (spD (tKindOf e.C_Signature)) := by
  refine okD T.F_Signature_kind_of sc_Signature_kind_of (fun ds h Q z => by obtain ⟨x, ts, en, gr, L, c, rfl, _⟩ := z; rfl) (fun cdv A outer s H E hG hr => ?_)
  refine ⟨_, (pss_cons (ps_expr (pe_methG (pv 0) T.c_Signature T.m_Signature_need_constructor (ok_Signature_need_constructor T) hG (hr.mono (by decide)) T.b_Signature_need_constructor .nil pass0 (pa_cons (pv 1) pa_nil)))
  (pss_one (ps_ret (pe_ix (ix_seqK (K := K) rfl) (pe_dget (hu_of hr) (pe_fldK (K := K) rfl (pv 0) rfl) (pv 1) (fun _ _ => rfl)) pe_int (fun _ _ => rfl))))), ?_⟩
  intro ds h Q z
  try dsimp only [cxOf, Cx.nox, Cx.wish]
  obtain ⟨x, ts, en, gr, L, t, rfl, sv, nd, ht, k⟩ := z
  have h1 := sv.i
  have h2 := sv.en
  have h3 := entK_at nd ht
  walk_at "dd"
  refine ⟨x, ts, en, gr, L, t.1, rfl, sv, nd, List.mem_map_of_mem ht, ?_⟩
  walk_at "dd"
  exact frz0 k
def tParts (C : Addr) : TD := fun ds h Q => ∃ (x : D) (ts : List Trip) (en gr : D) (L : Str → D) (t : Trip), ds = [x, .str t.1] ∧ SigV h C x ts en gr L ∧ (ts.map (·.1)).Nodup ∧ t ∈ ts ∧ Q (.tup (strsD t.2.2)) h
theorem sc_Signature_parts : FnScope ["self", "constructor"] ["self", "constructor"] (defScope s_Signature_parts) :=
  ⟨rfl, rfl, rfl, by decide +kernel, rfl, by decide +kernel, by decide +kernel⟩
theorem ok_Signature_parts (T : Txt K mg e) : FnG P w K mg base CX0 2 e.f_Signature_parts e.d_Signature_parts ["self", "constructor"] (spD (tParts e.C_Signature)) := by
  refine okD T.F_Signature_parts sc_Signature_parts (fun ds h Q z => by obtain ⟨x, ts, en, gr, L, c, rfl, _⟩ := z; rfl) (fun cdv A outer s H E hG hr => ?_)
  refine ⟨_, (pss_cons (ps_expr (pe_methG (pv 0) T.c_Signature T.m_Signature_need_constructor (ok_Signature_need_constructor T) hG (hr.mono (by decide)) T.b_Signature_need_constructor .nil pass0 (pa_cons (pv 1) pa_nil)))
  (pss_one (ps_ret (pe_ix (ix_seqK (K := K) rfl) (pe_dget (hu_of hr) (pe_fldK (K := K) rfl (pv 0) rfl) (pv 1) (fun _ _ => rfl)) pe_int (fun _ _ => rfl))))), ?_⟩
  intro ds h Q z
  try dsimp only [cxOf, Cx.nox, Cx.wish]
  obtain ⟨x, ts, en, gr, L, t, rfl, sv, nd, ht, k⟩ := z
  have h1 := sv.i
  have h2 := sv.en
  have h3 := entK_at nd ht
  walk_at "dd"
  refine ⟨x, ts, en, gr, L, t.1, rfl, sv, nd, List.mem_map_of_mem ht, ?_⟩
  walk_at "dd"
  exact frz0 k
def tTriples (C : Addr) : TD := fun ds h Q => ∃ (x : D) (ts : List Trip) (en gr : D) (L : Str → D), ds = [x] ∧ SigV h C x ts en gr L ∧ ts.length ≤ 1000 ∧ Fresh (ts.map trD) h Q
theorem sc_Signature_triples : FnScope ["self", "name", "kind", "parts"] ["self"] (defScope s_Signature_triples) :=
  ⟨rfl, rfl, rfl, by decide +kernel, rfl, by decide +kernel, by decide +kernel⟩
theorem ok_Signature_triples (T : Txt K mg e) : FnG P w K mg base CX0 1 e.f_Signature_triples e.d_Signature_triples ["self"] (spD (tTriples e.C_Signature)) := by
  refine okD T.F_Signature_triples sc_Signature_triples (fun ds h Q z => by obtain ⟨x, ts, en, gr, L, rfl, _⟩ := z; rfl) (fun cdv A outer s H E hG hr => ?_)
  refine ⟨_, (pss_one (ps_ret (pe_lockU (pe_lc (own := [("name", 1), ("kind", 2), ("parts", 3)]) (g := (gSeq K 2 (gCons (gName 1) (gCons (gSeq K 2 (gCons (gName 2) (gCons (gName 3) gNil))) gNil)))) (tt := tYes) rfl sc_Signature_triples.nd (pi_items (pe_fldK (K := K) rfl (pv 0) rfl)) (blkOk_by (own := [("name", 1), ("kind", 2), ("parts", 3)]) (N := ["self", "name", "kind", "parts"]) (sc := defScope (inClass (top 27) 6)) (by decide +kernel)) (fun _ _ _ _ _ => (pg_seqK (K := K) rfl rfl (pgs_cons (pg_name (i := 1) sc_Signature_triples.nd rfl (by first | exact Or.inl rfl | exact Or.inr rfl)) (pgs_cons (pg_seqK (K := K) rfl rfl (pgs_cons (pg_name (i := 2) sc_Signature_triples.nd rfl (by first | exact Or.inl rfl | exact Or.inr rfl)) (pgs_cons (pg_name (i := 3) sc_Signature_triples.nd rfl (by first | exact Or.inl rfl | exact Or.inr rfl)) pgs_nil))) pgs_nil)))) (fun _ _ _ _ _ => pts_nil) (fun _ _ _ _ _ => (pe_tup (pa_cons (pv 1) (pa_cons (pv 2) (pa_cons (pv 3) pa_nil))))))))), ?_⟩
  intro ds h Q z
  try dsimp only [cxOf, Cx.nox, Cx.wish]
  obtain ⟨x, ts, en, gr, L, rfl, sv, hz, k⟩ := z
  have h1 := sv.i
  have h2 := sv.en
  walk_at "dd"
  refine d_lockLcV w_items (det_fld (det_var rfl) h1 T.c_Signature T.a_Signature_entries (by walk_at "lk")) h2 fun h' Sd Q1 ok _ kk => ?_
  refine lc_map ts (fun t => .tup [.str t.1, .tup [.str t.2.1, .tup (strsD t.2.2)]]) trD (by unfold itemsD entK; rw [List.map_map]; rfl) (by omega) ok ?_ (kk _ ?_)
  · intro p acc i t np et
    walk_at "dd"
    rfl
  · exact k.toF
def tKinds (C : Addr) : TD := fun ds h Q => ∃ (x : D) (ts : List Trip) (en gr : D) (L : Str → D), ds = [x] ∧ SigV h C x ts en gr L ∧ ts.length ≤ 1000 ∧ Fresh (strsD (kindsOf ts)) h Q
theorem sc_Signature_kinds : FnScope ["self"] ["self"] (defScope s_Signature_kinds) :=
  ⟨rfl, rfl, rfl, by decide +kernel, rfl, by decide +kernel, by decide +kernel⟩
theorem ok_Signature_kinds (T : Txt K mg e) : FnG P w K mg base CX0 1 e.f_Signature_kinds e.d_Signature_kinds ["self"] (spD (tKinds e.C_Signature)) := by
  refine okD T.F_Signature_kinds sc_Signature_kinds (fun ds h Q z => by obtain ⟨x, ts, en, gr, L, rfl, _⟩ := z; rfl) (fun cdv A outer s H E hG hr => ?_)
  refine ⟨_, (pss_one (ps_ret (pe_callTy (call_listA (K := K) rfl rfl) (by rfl) T.n_list (by decide +kernel) (pa_cons (pe_fldK (K := K) rfl (pv 0) rfl) pa_nil)))), ?_⟩
  intro ds h Q z
  try dsimp only [cxOf, Cx.nox, Cx.wish]
  obtain ⟨x, ts, en, gr, L, rfl, sv, hz, k⟩ := z
  have h1 := sv.i
  have h2 := sv.gr
  walk_at "dd"
  refine w_listD h2 ?_
  have e1 : ((grpL L ts).map fun kv => kD kv.1) = strsD (kindsOf ts) := by unfold grpL; rw [List.map_map]; rfl
  rw [e1]
  exact k.toF
end

end Toy

set_option Elab.async false
set_option linter.all false
set_option maxRecDepth 100000
set_option maxHeartbeats 4000000
namespace Toy
open PySem L2 GX PySem.Spec TL
/-! ### one step of a reading over data -/
local macro_rules | `(tactic| walk_at "d1") => `(tactic| with_reducible first
  | refine' d_seq ?_ | refine' d_asg ?_ | refine' d_retF ?_ | refine' d_retN ?_ | refine' d_drop ?_ | refine' d_next ?_ | refine' d_break ?_ | refine' d_cont ?_ | refine' d_ifS ?_ | refine' d_par ?_ | refine' d_pr ?_
  | refine' d_cInt ?_ | refine' d_cBl ?_ | refine' d_cStr ?_ | refine' d_cNon ?_ | refine' d_op ?_ | refine' d_un ?_ | refine' d_test ?_ | refine' d_B ?_ | refine' d_bl ?_
  | refine' d_and ?_ | refine' d_or ?_ | refine' d_not ?_ | refine' d_yes ?_ | refine' d_if ?_ | refine' d_andV ?_ | refine' d_orV ?_ | refine' d_notV ?_ | refine' d_chain ?_
  | refine' d_nil ?_ | refine' d_cons ?_ | refine' d_CB ?_ | refine' d_tup ?_ | refine' d_call ?_ | refine' d_fld ?_ | refine' d_sfld ?_ | refine' d_meth ?_ | refine' d_make ?_
  | refine' d_din ?_ | refine' d_dnin ?_ | refine' d_dget ?_ | refine' d_dput ?_ | refine' d_dsetd ?_ | refine' d_for ?_ | refine' d_lc ?_
  | refine' i_seq ?_ | refine' i_list ?_ | refine' i_tup ?_ | refine' i_str ?_ | refine' i_rng1 ?_ | refine' i_rng2 ?_ | refine' i_rng3 ?_ | refine' i_zip ?_ | refine' i_enum ?_
  | refine' d_sl ?_ | refine' d_part ?_ | refine' d_nopart ?_ | refine' d_M1 ?_ | refine' d_M0 ?_ | refine' x_part ?_ | refine' x_strE ?_ | refine' x_seqF ?_ | refine' x_seqT ?_ | refine' x_lstF ?_ | refine' x_isLf ?_
  | refine' ⟨_, g_name ?_⟩ | refine' g_name ?_ | refine' g_nil ?_ | refine' g_cons ?_ | refine' ⟨_, g_sub ?_⟩ | refine' x_same ?_ | refine' d_BML rfl ?_ | refine' d_BML0 rfl ?_)
local macro_rules | `(tactic| walk_at "dv") => `(tactic| ((with_reducible refine' d_var ?hv ?_); (case hv => rfl)))
/-- a cell's content -/
local macro_rules | `(tactic| walk_at "hn") => `(tactic| first
  | assumption | exact Ne.symm (by assumption)
  | ((refine' h_ne ?ha ?hb); (case hb => assumption); (case ha => walk_at "hc"))
  | ((refine' Ne.symm (h_ne ?ha ?hb)); (case hb => assumption); (case ha => walk_at "hc")))
local macro_rules | `(tactic| walk_at "hc") => `(tactic| first
  | assumption | exact seth_same
  | ((refine' (seth_ne ?hn).trans ?hh); (case hn => walk_at "hn"); (case hh => walk_at "hc")))
/-- a sequence seen -/
local macro_rules | `(tactic| walk_at "sq") => `(tactic| first
  | exact LsV.f | exact SqV.l | exact SqV.t | assumption | exact Or.inl (by assumption) | ((refine' LsV.c ?e0); (case e0 => walk_at "hc")) | ((refine' SqV.c ?e0); (case e0 => walk_at "hc")) | assumption)
local macro_rules | `(tactic| walk_at "lk") => `(tactic| first | (with_reducible exact lk0) | exact lkN | (refine lkS (by decide +kernel) ?_; walk_at "lk"))
local macro_rules | `(tactic| walk_at "iv") => `(tactic| first | exact InsV.f | assumption | ((refine' InsV.c ?e0); (case e0 => walk_at "hc")))
local macro_rules | `(tactic| walk_at "dk") => `(tactic| first | exact DkV.f | assumption | ((refine' DkV.c ?e0); (case e0 => walk_at "hc")))
local macro_rules | `(tactic| walk_at "cls") => `(tactic| first | assumption | exact Txt.c_Signature (by assumption) | exact Txt.a_Signature_entries (by assumption) | exact Txt.a_Signature_grouped (by assumption))
local macro_rules | `(tactic| walk_at "he") => `(tactic| first | rfl | assumption | exact atI_nat (by assumption) | exact atI_eq (by assumption) (by omega))
local macro_rules | `(tactic| walk_at "hl") => `(tactic| first | assumption | (simp only [List.length_map, List.length_append, List.length_cons, List.length_nil, List.length_replicate, strLen_append]; omega) | omega | decide)
local macro_rules | `(tactic| walk_at "dx") => `(tactic| first
  | ((with_reducible refine' d_aug ?hv ?_); (case hv => rfl))
  | ((with_reducible refine' ⟨_, g_tup ?hl ?_⟩); (case hl => rfl))
  | ((with_reducible refine' g_tup ?hl ?_); (case hl => rfl))
  | ((with_reducible refine' ⟨_, g_seqT ?hl ?_⟩); (case hl => rfl))
  | ((with_reducible refine' g_seqT ?hl ?_); (case hl => rfl))
  | ((with_reducible refine' ⟨_, g_seqL ?hx ?hl ?_⟩); (case hx => walk_at "sq"); (case hl => rfl))
  | ((with_reducible refine' g_seqL ?hx ?hl ?_); (case hx => walk_at "sq"); (case hl => rfl))
  | ((with_reducible refine' g_nameV ?hm ?_); (case hm => simp))
  | (with_reducible refine' g_consV ?_)
  | (with_reducible refine' g_nilV ?_)
  | ((with_reducible refine' x_seqC ?hs ?_); (case hs => walk_at "hc"))
  | ((with_reducible refine' x_lstC ?hs ?_); (case hs => walk_at "hc"))
  | ((with_reducible refine' x_isL ?hs ?_); (case hs => walk_at "hc"))
  | ((with_reducible refine' x_size ?hs ?_); (case hs => walk_at "hl"))
  | ((with_reducible refine' x_rg1 ?hs ?_); (case hs => constructor <;> first | omega | (simp only [List.length_map]; omega)))
  | ((with_reducible refine' x_rg2 ?hs ?_); (case hs => refine ⟨?_, ?_, ?_, ?_⟩ <;> first | omega | (simp only [List.length_map]; omega)))
  | (with_reducible refine' w_addI ?_)
  | ((with_reducible refine' w_mulI ?hc ?_); (case hc => first | assumption | exact cmul_small (by constructor <;> omega) (by constructor <;> omega)))
  | (with_reducible refine' v_I0i ?_)
  | (with_reducible refine' v_I0b ?_)
  | (with_reducible refine' v_Ui ?_)
  | (with_reducible refine' w_eqI ?_)
  | (with_reducible refine' w_eqS ?_)
  | (with_reducible refine' w_eqB ?_)
  | (with_reducible refine' w_neI ?_)
  | (with_reducible refine' w_neS ?_)
  | (with_reducible refine' w_neB ?_)
  | (with_reducible refine' v_isN ?_)
  | (with_reducible refine' v_notN ?_)
  | (with_reducible refine' w_inSign ?_)
  | ((with_reducible refine' w_inS ?hs ?_); (case hs => walk_at "sq"))
  | ((with_reducible refine' w_ninS ?hs ?_); (case hs => walk_at "sq"))
  | ((with_reducible refine' w_inI ?hs ?_); (case hs => walk_at "sq"))
  | ((with_reducible refine' w_ninI ?hs ?_); (case hs => walk_at "sq"))
  | ((with_reducible refine' w_addS ?hl ?_); (case hl => walk_at "hl"))
  | ((with_reducible refine' w_catT ?hl ?_); (case hl => walk_at "hl"))
  | ((with_reducible refine' w_slS ?hl ?_); (case hl => walk_at "hl"))
  | (with_reducible refine' w_slT ?_)
  | ((with_reducible refine' w_slL ?hs (.f ?_)); (case hs => walk_at "sq"))
  | ((with_reducible refine' w_lenS ?hl ?_); (case hl => walk_at "hl"))
  | ((with_reducible refine' w_len ?hs ?_); (case hs => walk_at "sq"))
  | ((with_reducible refine' w_lenD ?hs ?_); (case hs => walk_at "dk"))
  | ((with_reducible refine' v_tupOf ?hs ?_); (case hs => walk_at "sq"))
  | ((with_reducible refine' w_list ?hs (.f ?_)); (case hs => walk_at "sq"))
  | ((with_reducible refine' v_sum ?hs ?_); (case hs => walk_at "sq"))
  | ((with_reducible refine' v_all ?hs ?_); (case hs => walk_at "sq"))
  | ((with_reducible refine' v_any ?hs ?_); (case hs => walk_at "sq"))
  | (with_reducible refine' v_max2 ?_)
  | (with_reducible refine' v_min2 ?_)
  | (with_reducible refine' v_int1 ?_)
  | (with_reducible refine' v_int1b ?_)
  | (with_reducible refine' v_abs ?_)
  | ((with_reducible refine' w_ixT ?he ?_); (case he => walk_at "he"))
  | ((with_reducible refine' w_ixL ?hs ?he ?_); (case hs => walk_at "sq"); (case he => walk_at "he"))
  | ((with_reducible refine' v_app ?hs ?hl ?_); (case hs => walk_at "hc"); (case hl => walk_at "hl"))
  | ((with_reducible refine' v_insert ?hs ?hl ?h0 ?_); (case hs => walk_at "hc"); (case hl => walk_at "hl"); (case h0 => constructor <;> omega))
  | ((with_reducible refine' x_fldV ?hi ?hc ?hn ?hl ?_); (case hi => walk_at "iv"); (case hc => walk_at "cls"); (case hn => walk_at "cls"); (case hl => walk_at "lk"))
  | ((with_reducible refine' x_methV ?hi ?hl ?_); (case hi => walk_at "iv"); (case hl => walk_at "lk"))
  | ((with_reducible refine' x_sfldC ?hs ?hc ?hn ?hl ?_); (case hs => walk_at "hc"); (case hc => walk_at "cls"); (case hn => walk_at "cls"); (case hl => first | simp | (refine Nat.lt_of_le_of_lt putFD_len ?_; simp) | (refine Nat.lt_of_le_of_lt putFD_len (Nat.lt_of_le_of_lt (Nat.succ_le_succ putFD_len) ?_); simp)))
  | ((with_reducible refine' x_inS ?hs ?_); (case hs => walk_at "dk"))
  | ((with_reducible refine' x_inI ?hs ?_); (case hs => walk_at "dk"))
  | ((with_reducible refine' x_getS ?hs ?he ?_); (case hs => walk_at "dk"); (case he => assumption))
  | ((with_reducible refine' x_getI ?hs ?he ?_); (case hs => walk_at "dk"); (case he => assumption))
  | ((with_reducible refine' x_putS ?hs ?hl ?_); (case hs => walk_at "hc"); (case hl => walk_at "hl"))
  | ((with_reducible refine' x_putI ?hs ?hl ?_); (case hs => walk_at "hc"); (case hl => walk_at "hl"))
  | ((with_reducible refine' x_isK ?hs ?_); (case hs => walk_at "dk"))
  | ((with_reducible refine' x_isDV ?hs ?_); (case hs => walk_at "dk")))
local macro_rules | `(tactic| walk_at "dd") => `(tactic| repeat' (first | walk_at "d1" | walk_at "dv" | walk_at "dx"))

/-! ### a signature made -/
section
variable {P : Program} {w : World} {K : PySem.W.Frag} {mg : Str → Option Value} {base : Heap} {e : Env}
def tDeclare (C : Addr) : TD := fun ds h Q => ∃ (S de dg : Addr) (A : Str → Addr) (ts : List Trip) (h0 : Hs) (t : Trip), ds = [.ref S, .str t.1, .str t.2.1, .tup (strsD t.2.2)] ∧ h = sigH h0 C S de dg A ts ∧ SigC h0 S de dg A ts ∧
  isNm t.1 = true ∧ isNm t.2.1 = true ∧ t.1.length ≤ 1000 ∧ t.2.1.length ≤ 1000 ∧ t.1 ∉ ts.map (·.1) ∧ ts.length ≤ 1000 ∧
  ∀ A' : Str → Addr, SigC h0 S de dg A' (ts ++ [t]) → Q .non (sigH h0 C S de dg A' (ts ++ [t]))
theorem sc_Signature_declare : FnScope ["self", "constructor", "kind", "parts"] ["self", "constructor", "kind", "parts"] (defScope s_Signature_declare) :=
  ⟨rfl, rfl, rfl, by decide +kernel, rfl, by decide +kernel, by decide +kernel⟩
theorem ok_Signature_declare (T : Txt K mg e) : FnG P w K mg base CX0 3 e.f_Signature_declare e.d_Signature_declare ["self", "constructor", "kind", "parts"] (spD (tDeclare e.C_Signature)) := by
  refine okD T.F_Signature_declare sc_Signature_declare (fun ds h Q z => by obtain ⟨S, de, dg, A, ts, h0, t, rfl, _⟩ := z; rfl) (fun cdv A outer s H E hG hr => ?_)
  refine ⟨_, (pss_cons (ps_expr (pe_callG (ok_need_name T) hG (hr.mono (by decide)) (by rfl) T.g_need_name T.F_need_name.kp T.b_need_name .nil pass0 (pa_cons (pv 1) pa_nil)))
  (pss_cons (ps_expr (pe_callG (ok_need_name T) hG (hr.mono (by decide)) (by rfl) T.g_need_name T.F_need_name.kp T.b_need_name .nil pass0 (pa_cons (pv 2) pa_nil)))
  (pss_cons (ps_if (pt_cmp (pc_din (hu_of hr) (pv 1) (pe_fldK (K := K) rfl (pv 0) rfl)))
    (pss_one ps_never)
    pss_nil)
  (pss_cons (ps_dput (hu_of hr) (pe_fldK (K := K) rfl (pv 0) rfl) (pv 1) (pe_tup (pa_cons (pv 2) (pa_cons (pv 3) pa_nil))) rfl)
  (pss_one (ps_expr (pe_bmK (K := K) rfl PySem.F.plainAttrs_list PySem.F.slot_list_append PySem.F.type_list_append mt_app (pe_dsetd (pe_fldK (K := K) rfl (pv 0) rfl) (pv 2) (pe_lst pa_nil) ⟨rfl, rfl, rfl, rfl⟩) (pa_cons (pv 1) pa_nil)))))))), ?_⟩
  intro ds h Q z
  try dsimp only [cxOf, Cx.nox, Cx.wish]
  obtain ⟨S, de, dg, A, ts, h0, t, rfl, rfl, c, m1, m2, z1, z2, nin, hz, k⟩ := z
  have h1 := sigH_S (h0 := h0) (C := e.C_Signature) (S := S) (de := de) (dg := dg) (A := A) (ts := ts)
  have h2 := sigH_e (C := e.C_Signature) c
  have h3 := sigH_g (C := e.C_Signature) c
  walk_at "dd"
  refine ⟨t.1, rfl, z1, m1, ?_⟩
  walk_at "dd"
  refine ⟨t.2.1, rfl, z2, m2, ?_⟩
  walk_at "dd"
  rw [entK_none nin]
  refine ite_f rfl ?_
  have l1 : (entK ts).length ≤ 100000 := by unfold entK; rw [List.length_map]; omega
  have l2 : (grpL (fun k => D.ref (A k)) ts).length ≤ 100000 := by
    have := kinds_le ts
    unfold grpL
    rw [List.length_map]
    omega
  have d1 := c.d1
  have d2 := c.d2
  have d3 := c.d3
  by_cases hk : t.2.1 ∈ kindsOf ts
  · obtain ⟨n1, n2, n3, n4⟩ := c.kA _ hk
    have hA := sigH_A (C := e.C_Signature) c hk
    obtain ⟨eh, c'⟩ := sigH_old_kind (C := e.C_Signature) c nin hk
    have few : (consOf ts t.2.1).length ≤ 1000 := by
      unfold consOf
      rw [List.length_map]
      exact Nat.le_trans (List.length_filter_le _ _) hz
    walk_at "dd"
    refine d_lst (d_nil ⟨by decide, ?_⟩)
    refine ⟨dg, _, Sum.inr t.2.1, rfl, by walk_at "hc", rfl, l2, fun d hd => ?_, fun hn => ?_⟩
    · rw [grpL_at _ hk] at hd
      cases hd
      walk_at "dd"
      have q := k A c'
      rw [← eh] at q
      exact q
    · rw [grpL_at _ hk] at hn
      cases hn
  · walk_at "dd"
    refine d_lstC (d_nil ⟨by decide, fun p np => ?_⟩)
    have np0 : sigH h0 e.C_Signature S de dg A ts p = none := by
      rw [seth_ne] at np
      · exact np
      · rintro rfl
        rw [seth_same] at np
        cases np
    obtain ⟨eh, c'⟩ := sigH_new_kind (C := e.C_Signature) c nin hk np0
    obtain ⟨p0, p1, p2, p3, p4⟩ := sigH_in c np0
    refine ⟨dg, _, Sum.inr t.2.1, rfl, by walk_at "hc", rfl, l2, fun d hd => ?_, fun _ => ?_⟩
    · rw [grpL_none _ hk] at hd
      cases hd
    · walk_at "dd"
      have q := k _ c'
      rw [← eh] at q
      rw [seth_comm p3, seth_seth]
      exact q
def tNeedBounds (C : Addr) : TD := fun ds h Q => ∃ (x : D) (ts : List Trip) (en gr : D) (L : Str → D), ds = [x] ∧ SigV h C x ts en gr L ∧ (kindsOf ts).length ≤ 4 ∧ (∀ k ∈ kindsOf ts, (consOf ts k).length ≤ 6) ∧ (∀ t ∈ ts, t.2.2.length ≤ 3) ∧ ts.length ≤ 1000 ∧ Q .non h
theorem sc_Signature_need_bounds : FnScope ["self", "some", "kind", "parts"] ["self"] (defScope s_Signature_need_bounds) :=
  ⟨rfl, rfl, rfl, by decide +kernel, rfl, by decide +kernel, by decide +kernel⟩
theorem ok_Signature_need_bounds (T : Txt K mg e) : FnG P w K mg base CX0 1 e.f_Signature_need_bounds e.d_Signature_need_bounds ["self"] (spD (tNeedBounds e.C_Signature)) := by
  refine okD T.F_Signature_need_bounds sc_Signature_need_bounds (fun ds h Q z => by obtain ⟨x, ts, en, gr, L, rfl, _⟩ := z; rfl) (fun cdv A outer s H E hG hr => ?_)
  refine ⟨_, (pss_cons (ps_if (pt_cmpR op_gt (pe_callB (call_lenA (K := K) rfl) (by rfl) T.n_len (by decide +kernel) (pa_cons (pe_fldK (K := K) rfl (pv 0) rfl) pa_nil)) (pe_glob (v := .int 4) (by rfl) T.g_MOST_KINDS.choose_spec ⟨_, rfl⟩) (nomark _))
    (pss_one ps_never)
    pss_nil)
  (pss_cons (ps_if (pt_val (pe_callB (cr_anyK (K := K) rfl rfl) (by rfl) T.n_any (by decide +kernel) (pa_cons (pe_lockU (pe_lc (own := [("some", 1)]) (g := (gName 1)) (tt := tYes) rfl sc_Signature_need_bounds.nd (pi_values (pe_fldK (K := K) rfl (pv 0) rfl)) (blkOk_by (own := [("some", 1)]) (N := ["self", "some", "kind", "parts"]) (sc := defScope (inClass (top 27) 2)) (by decide +kernel)) (fun _ _ _ _ _ => (pg_name (i := 1) sc_Signature_need_bounds.nd rfl (by first | exact Or.inl rfl | exact Or.inr rfl))) (fun _ _ _ _ _ => pts_nil) (fun _ _ _ _ _ => (pe_cmpR op_gt (pe_callB (call_lenA (K := K) rfl) (by rfl) T.n_len (by decide +kernel) (pa_cons (pv 1) pa_nil)) (pe_glob (v := .int 6) (by rfl) T.g_MOST_CONSTRUCTORS.choose_spec ⟨_, rfl⟩) (nomark _))))) pa_nil)))
    (pss_one ps_never)
    pss_nil)
  (pss_one (ps_if (pt_val (pe_callB (cr_anyK (K := K) rfl rfl) (by rfl) T.n_any (by decide +kernel) (pa_cons (pe_lockU (pe_lc (own := [("kind", 2), ("parts", 3)]) (g := (gSeq K 2 (gCons (gName 2) (gCons (gName 3) gNil)))) (tt := tYes) rfl sc_Signature_need_bounds.nd (pi_values (pe_fldK (K := K) rfl (pv 0) rfl)) (blkOk_by (own := [("kind", 2), ("parts", 3)]) (N := ["self", "some", "kind", "parts"]) (sc := defScope (inClass (top 27) 2)) (by decide +kernel)) (fun _ _ _ _ _ => (pg_seqK (K := K) rfl rfl (pgs_cons (pg_name (i := 2) sc_Signature_need_bounds.nd rfl (by first | exact Or.inl rfl | exact Or.inr rfl)) (pgs_cons (pg_name (i := 3) sc_Signature_need_bounds.nd rfl (by first | exact Or.inl rfl | exact Or.inr rfl)) pgs_nil)))) (fun _ _ _ _ _ => pts_nil) (fun _ _ _ _ _ => (pe_cmpR op_gt (pe_callB (call_lenA (K := K) rfl) (by rfl) T.n_len (by decide +kernel) (pa_cons (pv 3) pa_nil)) (pe_glob (v := .int 3) (by rfl) T.g_MOST_PARTS.choose_spec ⟨_, rfl⟩) (nomark _))))) pa_nil)))
    (pss_one ps_never)
    pss_nil)))), ?_⟩
  intro ds h Q z
  try dsimp only [cxOf, Cx.nox, Cx.wish]
  obtain ⟨x, ts, en, gr, L, rfl, sv, b1, b2, b3, hz, k⟩ := z
  have h1 := sv.i
  have h2 := sv.en
  have h3 := sv.gr
  have e4 : (grpL L ts).length = (kindsOf ts).length := by unfold grpL; rw [List.length_map]
  walk_at "dd"
  refine ite_f (decide_eq_false (by omega)) ?_
  walk_at "dd"
  refine d_lockLcV w_vals (det_fld (det_var rfl) h1 T.c_Signature T.a_Signature_grouped (by walk_at "lk")) h3 fun h' Sd Q1 ok old kk => ?_
  refine lc_map (kindsOf ts) L (fun _ => .bl false) (by unfold valsD grpL; rw [List.map_map]; rfl) (by omega) ok ?_ (kk _ (.f ?_))
  · intro p acc i c np ek
    have hc := List.mem_of_getElem? ek
    have lv := ((sv.vs c hc).up old).new (o := .lst acc) np
    have hb := b2 c hc
    walk_at "dd"
    congr 1
    exact decide_eq_false (by rw [List.length_map]; omega)
  · walk_at "dd"
    refine v_any (bs := (kindsOf ts).map fun _ => false) (by rw [List.map_map]; exact .f) ?_
    rw [all_false]
    walk_at "dd"
    refine ite_f rfl ?_
    walk_at "dd"
    refine d_lockLcV w_vals (det_fld (det_var rfl) h1 T.c_Signature T.a_Signature_entries (by walk_at "lk")) h2 fun h' Sd Q1 ok old kk => ?_
    refine lc_map ts (fun t => .tup [.str t.2.1, .tup (strsD t.2.2)]) (fun _ => .bl false) (by unfold valsD entK; rw [List.map_map]; rfl) (by omega) ok ?_ (kk _ (.f ?_))
    · intro p acc i t np et
      have hb := b3 t (List.mem_of_getElem? et)
      walk_at "dd"
      congr 1
      exact decide_eq_false (by rw [List.length_map]; omega)
    · walk_at "dd"
      refine v_any (bs := ts.map fun _ => false) (by rw [List.map_map]; exact .f) ?_
      rw [all_false]
      walk_at "dd"
      refine ite_f rfl ?_
      walk_at "dd"
      exact k
/-- a list of triples as passed: tuples or lists, the parts too -/
def PassT (x : D) (t : Trip) : Prop := ∃ d, (x = .tup [.str t.1, .str t.2.1, d] ∨ x = .lst [.str t.1, .str t.2.1, d]) ∧ (d = .tup (strsD t.2.2) ∨ d = .lst (strsD t.2.2))
def tInit (C : Addr) : TD := fun ds h Q => ∃ (S : Addr) (xs : List D) (ts : List Trip) (h0 : Hs), ds = [.ref S, .lst xs] ∧ h = seth h0 S (.ins C []) ∧ h0 S = none ∧ Good isNm ts ∧ xs.length = ts.length ∧ (∀ (i : Nat) x t, xs[i]? = some x → ts[i]? = some t → PassT x t) ∧
  ∀ (de dg : Addr) (A : Str → Addr), SigC h0 S de dg A ts → Q .non (sigH h0 C S de dg A ts)
theorem sc_Signature___init__ : FnScope ["self", "constructors", "constructor", "kind", "parts", "part", "finite"] ["self", "constructors"] (defScope s_Signature___init__) :=
  ⟨rfl, rfl, rfl, by decide +kernel, rfl, by decide +kernel, by decide +kernel⟩
theorem ok_Signature___init__ (T : Txt K mg e) : FnG P w K mg base CX0 4 e.f_Signature___init__ e.d_Signature___init__ ["self", "constructors"] (spD (tInit e.C_Signature)) := by
  refine okD T.F_Signature___init__ sc_Signature___init__ (fun ds h Q z => by obtain ⟨S, xs, ts, h0, rfl, _⟩ := z; rfl) (fun cdv A outer s H E hG hr => ?_)
  refine ⟨_, (pss_cons (ps_fldK (K := K) rfl (pv 0) pe_dnewK rfl)
  (pss_cons (ps_fldK (K := K) rfl (pv 0) pe_dnewK rfl)
  (pss_cons (ps_for PassesOwn.never rfl (pi_seqK (K := K) rfl (pv 1)) (pg_seqK (K := K) rfl rfl (pgs_cons (pg_name (i := 2) sc_Signature___init__.nd rfl (by first | exact Or.inl rfl | exact Or.inr rfl)) (pgs_cons (pg_name (i := 3) sc_Signature___init__.nd rfl (by first | exact Or.inl rfl | exact Or.inr rfl)) (pgs_cons (pg_name (i := 4) sc_Signature___init__.nd rfl (by first | exact Or.inl rfl | exact Or.inr rfl)) pgs_nil))))
    (pss_one (ps_expr (pe_methG (pv 0) T.c_Signature T.m_Signature_declare (ok_Signature_declare T) hG (hr.mono (by decide)) T.b_Signature_declare .nil pass0 (pa_cons (pv 2) (pa_cons (pv 3) (pa_cons (pe_callTy (call_tupleK (K := K) rfl) (by rfl) T.n_tuple (by decide +kernel) (pa_cons (pv 4) pa_nil)) pa_nil)))))))
  (pss_cons (ps_expr (pe_meth0G (pv 0) T.c_Signature T.m_Signature_need_bounds (ok_Signature_need_bounds T) hG (hr.mono (by decide)) T.b_Signature_need_bounds .nil pass0))
  (pss_cons (ps_for PassesOwn.never rfl (pi_seqK (K := K) rfl (pe_meth0G (pv 0) T.c_Signature T.m_Signature_triples (ok_Signature_triples T) hG (hr.mono (by decide)) T.b_Signature_triples .nil pass0)) (pg_seqK (K := K) rfl rfl (pgs_cons (pg_name (i := 2) sc_Signature___init__.nd rfl (by first | exact Or.inl rfl | exact Or.inr rfl)) (pgs_cons (pg_name (i := 3) sc_Signature___init__.nd rfl (by first | exact Or.inl rfl | exact Or.inr rfl)) (pgs_cons (pg_name (i := 4) sc_Signature___init__.nd rfl (by first | exact Or.inl rfl | exact Or.inr rfl)) pgs_nil))))
    (pss_one (ps_for PassesOwn.never rfl (pi_seqK (K := K) rfl (pv 4)) (pg_name (i := 5) sc_Signature___init__.nd rfl (by first | exact Or.inl rfl | exact Or.inr rfl))
        (pss_one (ps_expr (pe_methG (pv 0) T.c_Signature T.m_Signature_need_kind (ok_Signature_need_kind T) hG (hr.mono (by decide)) T.b_Signature_need_kind .nil pass0 (pa_cons (pv 5) pa_nil)))))))
  (pss_cons (ps_set (i := 6) sc_Signature___init__.nd rfl (by first | exact Or.inl rfl | exact Or.inr rfl) (pe_callG (ok_finite_kinds T) hG (hr.mono (by decide)) (by rfl) T.g_finite_kinds T.F_finite_kinds.kp T.b_finite_kinds .nil pass0 (pa_cons (pe_meth0G (pv 0) T.c_Signature T.m_Signature_triples (ok_Signature_triples T) hG (hr.mono (by decide)) T.b_Signature_triples .nil pass0) pa_nil)))
  (pss_one (ps_lockU (ps_for PassesOwn.never rfl (pi_keys (pe_fldK (K := K) rfl (pv 0) rfl)) (pg_name (i := 3) sc_Signature___init__.nd rfl (by first | exact Or.inl rfl | exact Or.inr rfl))
    (pss_one (ps_if (pt_cmpR (op_ninG (K := K) rfl (units65 hr)) (pv 3) (pv 6) (by rfl))
        (pss_one ps_never)
        pss_nil))))))))))), ?_⟩
  intro ds h Q z
  try dsimp only [cxOf, Cx.nox, Cx.wish]
  obtain ⟨S, xs, ts, h0, rfl, rfl, nS, good, hl, hp, k⟩ := z
  walk_at "dd"
  refine d_dnewK fun de ne => ?_
  have ne0 : h0 de = none := by
    rw [seth_ne] at ne
    · exact ne
    · rintro rfl
      rw [seth_same] at ne
      cases ne
  have d1 : de ≠ S := by
    rintro rfl
    rw [seth_same] at ne
    cases ne
  walk_at "dd"
  refine d_dnewK fun dg ng => ?_
  have ng1 : dg ≠ S := by
    rintro rfl
    rw [seth_same] at ng
    cases ng
  rw [seth_ne ng1] at ng
  have ng2 : dg ≠ de := by
    rintro rfl
    rw [seth_same] at ng
    cases ng
  rw [seth_ne ng2, seth_ne ng1] at ng
  walk_at "dd"
  obtain ⟨c0, eh⟩ := sigH_start (C := e.C_Signature) nS ne0 ng d1 ng1 ng2
  rw [eh]
  have lx : xs.length ≤ 1000 := by rw [hl]; exact good.few
  refine for_P [2, 3, 4, 5, 6] xs id (by rw [List.map_id]) (fun pre ρ h' => ∃ (A : Str → Addr), ρ = [some (.ref S), some (.lst xs), none, none, none, none, none] ∧ h' = sigH h0 e.C_Signature S de dg A (ts.take pre.length) ∧ SigC h0 S de dg A (ts.take pre.length)) ⟨_, rfl, rfl, c0⟩ (fun _ _ _ _ => trivial) ?_ ?_
  · rintro pre y post ρ h' el ⟨A, rfl, rfl, c⟩
    have e1 := congrArg List.length el
    rw [List.length_append, List.length_cons] at e1
    have ey : xs[pre.length]? = some y := by rw [el, List.getElem?_append_right (Nat.le_refl _), Nat.sub_self]; rfl
    obtain ⟨t, et⟩ : ∃ t, ts[pre.length]? = some t := ⟨_, List.getElem?_eq_getElem (by omega)⟩
    have tm := List.mem_of_getElem? et
    have ett : ts.take (pre.length + 1) = ts.take pre.length ++ [t] := by rw [List.take_succ, et]; rfl
    have nin : t.1 ∉ (ts.take pre.length).map (·.1) := by
      have nd := good.nd
      have : ts = ts.take pre.length ++ t :: ts.drop (pre.length + 1) := by
        have e3 := (List.getElem?_eq_some_iff.mp et).2
        rw [← e3, List.getElem_cons_drop, List.take_append_drop]
      rw [this, List.map_append, List.map_cons] at nd
      exact fun hm => (List.nodup_append.mp nd).2.2 _ hm _ (List.mem_cons_self ..) rfl
    have hsig := sigH_S (h0 := h0) (C := e.C_Signature) (S := S) (de := de) (dg := dg) (A := A) (ts := ts.take pre.length)
    obtain ⟨d, hx, hd⟩ := hp _ _ _ ey et
    have fin : ∀ (ρ' : Rho), ρ' = [some (.ref S), some (.lst xs), none, none, none, none, none] → ∀ A', SigC h0 S de dg A' (ts.take pre.length ++ [t]) →
        ∃ (A : Str → Addr), ρ' = [some (.ref S), some (.lst xs), none, none, none, none, none] ∧ sigH h0 e.C_Signature S de dg A' (ts.take pre.length ++ [t]) = sigH h0 e.C_Signature S de dg A (ts.take (pre ++ [y]).length) ∧ SigC h0 S de dg A (ts.take (pre ++ [y]).length) := by
      intro ρ' eρ A' c'
      rw [List.length_append]
      show ∃ A, _ ∧ _ = sigH _ _ _ _ _ _ (ts.take (pre.length + 1)) ∧ SigC _ _ _ _ _ (ts.take (pre.length + 1))
      rw [ett]
      exact ⟨A', eρ, rfl, c'⟩
    have lz : (ts.take pre.length).length ≤ 1000 := by rw [List.length_take]; have := good.few; omega
    have call : ∀ (Q0 : QD), (∀ A', SigC h0 S de dg A' (ts.take pre.length ++ [t]) → Q0 .non (sigH h0 e.C_Signature S de dg A' (ts.take pre.length ++ [t]))) →
        tDeclare e.C_Signature [.ref S, .str t.1, .str t.2.1, .tup (strsD t.2.2)] (sigH h0 e.C_Signature S de dg A (ts.take pre.length)) Q0 := fun Q0 q =>
      ⟨S, de, dg, A, _, h0, t, rfl, rfl, c, (good.names t tm).1, (good.names t tm).2, (good.short t tm).1, (good.short t tm).2, nin, lz, q⟩
    rcases hx with rfl | rfl <;> rcases hd with rfl | rfl
    · walk_at "dd"
      exact call _ fun A' c' => fin _ rfl A' c'
    · walk_at "dd"
      exact call _ fun A' c' => fin _ rfl A' c'
    · walk_at "dd"
      exact call _ fun A' c' => fin _ rfl A' c'
    · walk_at "dd"
      exact call _ fun A' c' => fin _ rfl A' c'
  · rintro ρ h' ⟨A, rfl, rfl, c⟩
    rw [hl, List.take_length] at c ⊢
    have sv := sigV_cell (C := e.C_Signature) c
    have h1 := sv.i
    have hsig := sigH_S (h0 := h0) (C := e.C_Signature) (S := S) (de := de) (dg := dg) (A := A) (ts := ts)
    walk_at "dd"
    refine ⟨_, ts, _, _, _, rfl, sv, good.kinds, good.cons, good.parts, good.few, ?_⟩
    walk_at "dd"
    refine ⟨_, ts, _, _, _, rfl, sv, good.few, .f ?_⟩
    walk_at "dd"
    refine for_D [2, 3, 4, 5] ts trD rfl (fun i ρ h' => ρ = [some (.ref S), some (.lst xs), none, none, none, none, none] ∧ h' = sigH h0 e.C_Signature S de dg A ts) ⟨rfl, rfl⟩ (fun _ _ _ _ _ => trivial) ?_ ?_
    · rintro i t ρ h' et ⟨rfl, rfl⟩
      have tm := List.mem_of_getElem? et
      walk_at "dd"
      refine for_D [5] t.2.2 D.str rfl (fun i ρ h' => ρ = [some (.ref S), some (.lst xs), some (.str t.1), some (.str t.2.1), some (.tup (strsD t.2.2)), none, none] ∧ h' = sigH h0 e.C_Signature S de dg A ts) ⟨rfl, rfl⟩ (fun _ _ _ _ _ => trivial) ?_ ?_
      · rintro j p ρ h' ep ⟨rfl, rfl⟩
        walk_at "dd"
        refine ⟨_, ts, _, _, _, p, rfl, sv, good.known t tm p (List.mem_of_getElem? ep), ?_⟩
        exact ⟨rfl, rfl⟩
      · rintro ρ h' ⟨rfl, rfl⟩
        walk_at "dd"
        exact ⟨rfl, rfl⟩
    · rintro ρ h' ⟨rfl, rfl⟩
      walk_at "dd"
      refine ⟨_, ts, _, _, _, rfl, sv, good.few, .f ?_⟩
      walk_at "dd"
      refine ⟨ts, rfl, good.few, fun t ht => Nat.le_trans (good.parts t ht) (by decide), fun r hcl _ _ => ?_⟩
      walk_at "dd"
      refine d_lockForV w_keys (det_fld (det_var rfl) h1 T.c_Signature T.a_Signature_grouped (by walk_at "lk")) sv.gr fun h' Sd E1 hSd old oldk nx rt => ?_
      refine for_D [3] (kindsOf ts) D.str (by unfold keysD grpL; rw [List.map_map]; rfl) (fun i ρ h2 => ρ = [some (.ref S), some (.lst xs), none, none, none, none, some (.lst (strsD r))] ∧ h2 = h') ⟨rfl, rfl⟩ (fun i ρ h2 _ p => by rw [p.2]; exact hSd) ?_ ?_
      · rintro j kd ρ h2 ek ⟨rfl, rfl⟩
        have kr : kd ∈ r := Fint.mem hcl (good.fin kd (List.mem_of_getElem? ek))
        walk_at "dd"
        rw [decide_eq_true kr]
        refine ite_f rfl ?_
        walk_at "dd"
        exact ⟨rfl, rfl⟩
      · rintro ρ h2 ⟨rfl, rfl⟩
        walk_at "dd"
        exact nx _ (k de dg A c)
end

end Toy

set_option Elab.async false
set_option linter.all false
set_option maxRecDepth 100000
set_option maxHeartbeats 4000000
namespace Toy
open PySem L2 GX PySem.Spec TL
/-! ### one step of a reading over data -/
local macro_rules | `(tactic| walk_at "d1") => `(tactic| with_reducible first
  | refine' d_seq ?_ | refine' d_asg ?_ | refine' d_retF ?_ | refine' d_retN ?_ | refine' d_drop ?_ | refine' d_next ?_ | refine' d_break ?_ | refine' d_cont ?_ | refine' d_ifS ?_ | refine' d_par ?_ | refine' d_pr ?_
  | refine' d_cInt ?_ | refine' d_cBl ?_ | refine' d_cStr ?_ | refine' d_cNon ?_ | refine' d_op ?_ | refine' d_un ?_ | refine' d_test ?_ | refine' d_B ?_ | refine' d_bl ?_
  | refine' d_and ?_ | refine' d_or ?_ | refine' d_not ?_ | refine' d_yes ?_ | refine' d_if ?_ | refine' d_andV ?_ | refine' d_orV ?_ | refine' d_notV ?_ | refine' d_chain ?_
  | refine' d_nil ?_ | refine' d_cons ?_ | refine' d_CB ?_ | refine' d_tup ?_ | refine' d_call ?_ | refine' d_fld ?_ | refine' d_sfld ?_ | refine' d_meth ?_ | refine' d_make ?_
  | refine' d_din ?_ | refine' d_dnin ?_ | refine' d_dget ?_ | refine' d_dput ?_ | refine' d_dsetd ?_ | refine' d_for ?_ | refine' d_lc ?_
  | refine' i_seq ?_ | refine' i_list ?_ | refine' i_tup ?_ | refine' i_str ?_ | refine' i_rng1 ?_ | refine' i_rng2 ?_ | refine' i_rng3 ?_ | refine' i_zip ?_ | refine' i_enum ?_
  | refine' d_sl ?_ | refine' d_part ?_ | refine' d_nopart ?_ | refine' d_M1 ?_ | refine' d_M0 ?_ | refine' x_part ?_ | refine' x_strE ?_ | refine' x_seqF ?_ | refine' x_seqT ?_ | refine' x_lstF ?_ | refine' x_isLf ?_
  | refine' ⟨_, g_name ?_⟩ | refine' g_name ?_ | refine' g_nil ?_ | refine' g_cons ?_ | refine' ⟨_, g_sub ?_⟩ | refine' x_same ?_ | refine' d_BML rfl ?_ | refine' d_BML0 rfl ?_)
local macro_rules | `(tactic| walk_at "dv") => `(tactic| ((with_reducible refine' d_var ?hv ?_); (case hv => rfl)))
/-- a cell's content -/
local macro_rules | `(tactic| walk_at "hn") => `(tactic| first
  | assumption | exact Ne.symm (by assumption)
  | ((refine' h_ne ?ha ?hb); (case hb => assumption); (case ha => walk_at "hc"))
  | ((refine' Ne.symm (h_ne ?ha ?hb)); (case hb => assumption); (case ha => walk_at "hc")))
local macro_rules | `(tactic| walk_at "hc") => `(tactic| first
  | assumption | exact seth_same
  | ((refine' (seth_ne ?hn).trans ?hh); (case hn => walk_at "hn"); (case hh => walk_at "hc")))
/-- a sequence seen -/
local macro_rules | `(tactic| walk_at "sq") => `(tactic| first
  | exact LsV.f | exact SqV.l | exact SqV.t | assumption | exact Or.inl (by assumption) | ((refine' LsV.c ?e0); (case e0 => walk_at "hc")) | ((refine' SqV.c ?e0); (case e0 => walk_at "hc")) | assumption)
local macro_rules | `(tactic| walk_at "lk") => `(tactic| first | (with_reducible exact lk0) | exact lkN | (refine lkS (by decide +kernel) ?_; walk_at "lk"))
local macro_rules | `(tactic| walk_at "iv") => `(tactic| first | exact InsV.f | assumption | ((refine' InsV.c ?e0); (case e0 => walk_at "hc")))
local macro_rules | `(tactic| walk_at "dk") => `(tactic| first | exact DkV.f | assumption | ((refine' DkV.c ?e0); (case e0 => walk_at "hc")))
local macro_rules | `(tactic| walk_at "cls") => `(tactic| first | assumption | exact Txt.c_Signature (by assumption) | exact Txt.a_Signature_entries (by assumption) | exact Txt.a_Signature_grouped (by assumption))
local macro_rules | `(tactic| walk_at "he") => `(tactic| first | rfl | assumption | exact atI_nat (by assumption) | exact atI_eq (by assumption) (by omega))
local macro_rules | `(tactic| walk_at "hl") => `(tactic| first | assumption | (simp only [List.length_map, List.length_append, List.length_cons, List.length_nil, List.length_replicate, strLen_append]; omega) | omega | decide)
local macro_rules | `(tactic| walk_at "dx") => `(tactic| first
  | ((with_reducible refine' d_aug ?hv ?_); (case hv => rfl))
  | ((with_reducible refine' ⟨_, g_tup ?hl ?_⟩); (case hl => rfl))
  | ((with_reducible refine' g_tup ?hl ?_); (case hl => rfl))
  | ((with_reducible refine' ⟨_, g_seqT ?hl ?_⟩); (case hl => rfl))
  | ((with_reducible refine' g_seqT ?hl ?_); (case hl => rfl))
  | ((with_reducible refine' ⟨_, g_seqL ?hx ?hl ?_⟩); (case hx => walk_at "sq"); (case hl => rfl))
  | ((with_reducible refine' g_seqL ?hx ?hl ?_); (case hx => walk_at "sq"); (case hl => rfl))
  | ((with_reducible refine' g_nameV ?hm ?_); (case hm => simp))
  | (with_reducible refine' g_consV ?_)
  | (with_reducible refine' g_nilV ?_)
  | ((with_reducible refine' x_seqC ?hs ?_); (case hs => walk_at "hc"))
  | ((with_reducible refine' x_lstC ?hs ?_); (case hs => walk_at "hc"))
  | ((with_reducible refine' x_isL ?hs ?_); (case hs => walk_at "hc"))
  | ((with_reducible refine' x_size ?hs ?_); (case hs => walk_at "hl"))
  | ((with_reducible refine' x_rg1 ?hs ?_); (case hs => constructor <;> first | omega | (simp only [List.length_map]; omega)))
  | ((with_reducible refine' x_rg2 ?hs ?_); (case hs => refine ⟨?_, ?_, ?_, ?_⟩ <;> first | omega | (simp only [List.length_map]; omega)))
  | (with_reducible refine' w_addI ?_)
  | ((with_reducible refine' w_mulI ?hc ?_); (case hc => first | assumption | exact cmul_small (by constructor <;> omega) (by constructor <;> omega)))
  | (with_reducible refine' v_I0i ?_)
  | (with_reducible refine' v_I0b ?_)
  | (with_reducible refine' v_Ui ?_)
  | (with_reducible refine' w_eqI ?_)
  | (with_reducible refine' w_eqS ?_)
  | (with_reducible refine' w_eqB ?_)
  | (with_reducible refine' w_neI ?_)
  | (with_reducible refine' w_neS ?_)
  | (with_reducible refine' w_neB ?_)
  | (with_reducible refine' v_isN ?_)
  | (with_reducible refine' v_notN ?_)
  | (with_reducible refine' w_inSign ?_)
  | ((with_reducible refine' w_inS ?hs ?_); (case hs => walk_at "sq"))
  | ((with_reducible refine' w_ninS ?hs ?_); (case hs => walk_at "sq"))
  | ((with_reducible refine' w_inI ?hs ?_); (case hs => walk_at "sq"))
  | ((with_reducible refine' w_ninI ?hs ?_); (case hs => walk_at "sq"))
  | ((with_reducible refine' w_addS ?hl ?_); (case hl => walk_at "hl"))
  | ((with_reducible refine' w_catT ?hl ?_); (case hl => walk_at "hl"))
  | ((with_reducible refine' w_slS ?hl ?_); (case hl => walk_at "hl"))
  | (with_reducible refine' w_slT ?_)
  | ((with_reducible refine' w_slL ?hs (.f ?_)); (case hs => walk_at "sq"))
  | ((with_reducible refine' w_lenS ?hl ?_); (case hl => walk_at "hl"))
  | ((with_reducible refine' w_len ?hs ?_); (case hs => walk_at "sq"))
  | ((with_reducible refine' w_lenD ?hs ?_); (case hs => walk_at "dk"))
  | ((with_reducible refine' v_tupOf ?hs ?_); (case hs => walk_at "sq"))
  | ((with_reducible refine' w_list ?hs (.f ?_)); (case hs => walk_at "sq"))
  | ((with_reducible refine' v_sum ?hs ?_); (case hs => walk_at "sq"))
  | ((with_reducible refine' v_all ?hs ?_); (case hs => walk_at "sq"))
  | ((with_reducible refine' v_any ?hs ?_); (case hs => walk_at "sq"))
  | (with_reducible refine' v_max2 ?_)
  | (with_reducible refine' v_min2 ?_)
  | (with_reducible refine' v_int1 ?_)
  | (with_reducible refine' v_int1b ?_)
  | (with_reducible refine' v_abs ?_)
  | ((with_reducible refine' w_ixT ?he ?_); (case he => walk_at "he"))
  | ((with_reducible refine' w_ixL ?hs ?he ?_); (case hs => walk_at "sq"); (case he => walk_at "he"))
  | ((with_reducible refine' v_app ?hs ?hl ?_); (case hs => walk_at "hc"); (case hl => walk_at "hl"))
  | ((with_reducible refine' v_insert ?hs ?hl ?h0 ?_); (case hs => walk_at "hc"); (case hl => walk_at "hl"); (case h0 => constructor <;> omega))
  | ((with_reducible refine' x_fldV ?hi ?hc ?hn ?hl ?_); (case hi => walk_at "iv"); (case hc => walk_at "cls"); (case hn => walk_at "cls"); (case hl => walk_at "lk"))
  | ((with_reducible refine' x_methV ?hi ?hl ?_); (case hi => walk_at "iv"); (case hl => walk_at "lk"))
  | ((with_reducible refine' x_sfldC ?hs ?hc ?hn ?hl ?_); (case hs => walk_at "hc"); (case hc => walk_at "cls"); (case hn => walk_at "cls"); (case hl => first | simp | (refine Nat.lt_of_le_of_lt putFD_len ?_; simp) | (refine Nat.lt_of_le_of_lt putFD_len (Nat.lt_of_le_of_lt (Nat.succ_le_succ putFD_len) ?_); simp)))
  | ((with_reducible refine' x_inS ?hs ?_); (case hs => walk_at "dk"))
  | ((with_reducible refine' x_inI ?hs ?_); (case hs => walk_at "dk"))
  | ((with_reducible refine' x_getS ?hs ?he ?_); (case hs => walk_at "dk"); (case he => assumption))
  | ((with_reducible refine' x_getI ?hs ?he ?_); (case hs => walk_at "dk"); (case he => assumption))
  | ((with_reducible refine' x_putS ?hs ?hl ?_); (case hs => walk_at "hc"); (case hl => walk_at "hl"))
  | ((with_reducible refine' x_putI ?hs ?hl ?_); (case hs => walk_at "hc"); (case hl => walk_at "hl"))
  | ((with_reducible refine' x_isK ?hs ?_); (case hs => walk_at "dk"))
  | ((with_reducible refine' x_isDV ?hs ?_); (case hs => walk_at "dk")))
local macro_rules | `(tactic| walk_at "dd") => `(tactic| repeat' (first | walk_at "d1" | walk_at "dv" | walk_at "dx"))

/-! ### a signature drawn -/
section
variable {P : Program} {w : World} {K : PySem.W.Frag} {mg : Str → Option Value} {base : Heap} {e : Env}
def tSignature : TD := fun ds h Q => ∃ (a la : Addr) (names : List Str) (mk mm mp : Nat), ds = [.ref a, .lst (strsD names), .int (mk : Int), .int (mm : Int), .int (mp : Int)] ∧ h a = some (.src la) ∧ Names names ∧
  1 ≤ mk ∧ mk ≤ 4 ∧ mm ≤ 5 ∧ mp ≤ 3 ∧ 2 * mk + mm ≤ names.length ∧ names.length ≤ 1000 ∧ ∀ ts : List Trip, Good isNm ts → ts ≠ [] → (∀ t ∈ ts, t.1 ∈ names ∧ t.2.1 ∈ names) → (∃ n, n ≤ ts.length ∧ ∀ k ∈ kindsOf ts, Ez ts n k) → Fresh (ts.map trD) h Q
theorem sc__law_signature : FnScope ["_law_src", "_law_names_here", "_law_most_kinds", "_law_most_more", "_law_most_parts", "_law_kinds_here", "_law_triples", "_law_at", "_law_parts", "_law_k", "_law_j"] ["_law_src", "_law_names_here", "_law_most_kinds", "_law_most_more", "_law_most_parts"] (defScope s__law_signature) :=
  ⟨rfl, rfl, rfl, by decide +kernel, rfl, by decide +kernel, by decide +kernel⟩
theorem ok__law_signature (T : Txt K mg e) : FnG P w K mg base CX0 4 e.f__law_signature e.d__law_signature ["_law_src", "_law_names_here", "_law_most_kinds", "_law_most_more", "_law_most_parts"] (spD (tSignature)) := by
  refine okD T.F__law_signature sc__law_signature (fun ds h Q z => by obtain ⟨a, la, names, mk, mm, mp, rfl, _⟩ := z; rfl) (fun cdv A outer s H E hG hr => ?_)
  refine ⟨_, (pss_cons (ps_set (i := 5) sc__law_signature.nd rfl (by first | exact Or.inl rfl | exact Or.inr rfl) (pe_slice (sl_G (K := K) rfl) (pv 1) po_none (po_some (pe_op (op_addG (K := K) rfl) pe_int (pe_callG (ok__law_draw T) hG (hr.mono (by first | decide | omega)) (by rfl) T.g__law_draw T.F__law_draw.kp T.b__law_draw .nil pass0 (pa_cons (pv 0) (pa_cons (pv 2) pa_nil)))))))
  (pss_cons (ps_set (i := 6) sc__law_signature.nd rfl (by first | exact Or.inl rfl | exact Or.inr rfl) (pe_lst pa_nil))
  (pss_cons (ps_for PassesOwn.never rfl (pi_range1 (by rfl) T.n_range (pa_cons (pe_callB (call_lenA (K := K) rfl) (by rfl) T.n_len (by decide +kernel) (pa_cons (pv 5) pa_nil)) pa_nil)) (pg_name (i := 7) sc__law_signature.nd rfl (by first | exact Or.inl rfl | exact Or.inr rfl))
    (pss_cons (ps_setLc (i := 8) (own := [("_law_k", 9)]) (g := (gName 9)) (tt := tYes) rfl sc__law_signature.nd rfl rfl (sw_true rfl rfl rfl (by decide +kernel)) (pi_range1 (by rfl) T.n_range (pa_cons (pe_op (op_mulG (K := K) rfl) (pe_callG (ok__law_draw T) hG (hr.mono (by first | decide | omega)) (by rfl) T.g__law_draw T.F__law_draw.kp T.b__law_draw .nil pass0 (pa_cons (pv 0) (pa_cons pe_int pa_nil))) (pe_callB (call_min2 rfl) (by rfl) T.n_min (by decide +kernel) (pa_cons (pv 7) (pa_cons pe_int pa_nil)))) pa_nil)) (blkOk_by (own := [("_law_k", 9)]) (N := ["_law_src", "_law_names_here", "_law_most_kinds", "_law_most_more", "_law_most_parts", "_law_kinds_here", "_law_triples", "_law_at", "_law_parts", "_law_k", "_law_j"]) (sc := defScope (top 35)) (by decide +kernel)) (fun _ _ _ _ _ => (pg_name (i := 9) sc__law_signature.nd rfl (by first | exact Or.inl rfl | exact Or.inr rfl))) (fun _ _ _ _ _ => pts_nil) (fun _ _ _ _ _ => (pe_callG (ok__law_of T) hG (hr.mono (by first | decide | omega)) (by rfl) T.g__law_of T.F__law_of.kp T.b__law_of .nil pass0 (pa_cons (pv 0) (pa_cons (pe_slice (sl_G (K := K) rfl) (pv 5) po_none (po_some (pv 7))) pa_nil)))) (by intro _; rfl))
      (pss_one (ps_expr (pe_bmK (K := K) rfl PySem.F.plainAttrs_list PySem.F.slot_list_append PySem.F.type_list_append mt_app (pv 6) (pa_cons (pe_tup (pa_cons (pe_ix (ix_seqK (K := K) rfl) (pv 1) (pe_op (op_addG (K := K) rfl) (pe_callB (call_lenA (K := K) rfl) (by rfl) T.n_len (by decide +kernel) (pa_cons (pv 5) pa_nil)) (pv 7)) (fun _ _ => rfl)) (pa_cons (pe_ix (ix_seqK (K := K) rfl) (pv 5) (pv 7) (fun _ _ => rfl)) (pa_cons (pe_callTy (call_tupleK (K := K) rfl) (by rfl) T.n_tuple (by decide +kernel) (pa_cons (pv 8) pa_nil)) pa_nil)))) pa_nil))))))
  (pss_cons (ps_for PassesOwn.never rfl (pi_range1 (by rfl) T.n_range (pa_cons (pe_callG (ok__law_draw T) hG (hr.mono (by first | decide | omega)) (by rfl) T.g__law_draw T.F__law_draw.kp T.b__law_draw .nil pass0 (pa_cons (pv 0) (pa_cons (pe_op (op_addG (K := K) rfl) (pv 3) pe_int) pa_nil))) pa_nil)) (pg_name (i := 9) sc__law_signature.nd rfl (by first | exact Or.inl rfl | exact Or.inr rfl))
    (pss_cons (ps_setLc (i := 8) (own := [("_law_j", 10)]) (g := (gName 10)) (tt := tYes) rfl sc__law_signature.nd rfl rfl (sw_true rfl rfl rfl (by decide +kernel)) (pi_range1 (by rfl) T.n_range (pa_cons (pe_callG (ok__law_draw T) hG (hr.mono (by first | decide | omega)) (by rfl) T.g__law_draw T.F__law_draw.kp T.b__law_draw .nil pass0 (pa_cons (pv 0) (pa_cons (pe_op (op_addG (K := K) rfl) (pv 4) pe_int) pa_nil))) pa_nil)) (blkOk_by (own := [("_law_j", 10)]) (N := ["_law_src", "_law_names_here", "_law_most_kinds", "_law_most_more", "_law_most_parts", "_law_kinds_here", "_law_triples", "_law_at", "_law_parts", "_law_k", "_law_j"]) (sc := defScope (top 35)) (by decide +kernel)) (fun _ _ _ _ _ => (pg_name (i := 10) sc__law_signature.nd rfl (by first | exact Or.inl rfl | exact Or.inr rfl))) (fun _ _ _ _ _ => pts_nil) (fun _ _ _ _ _ => (pe_callG (ok__law_of T) hG (hr.mono (by first | decide | omega)) (by rfl) T.g__law_of T.F__law_of.kp T.b__law_of .nil pass0 (pa_cons (pv 0) (pa_cons (pv 5) pa_nil)))) (by intro _; rfl))
      (pss_one (ps_expr (pe_bmK (K := K) rfl PySem.F.plainAttrs_list PySem.F.slot_list_append PySem.F.type_list_append mt_app (pv 6) (pa_cons (pe_tup (pa_cons (pe_ix (ix_seqK (K := K) rfl) (pv 1) (pe_op (op_addG (K := K) rfl) (pe_op (op_mulG (K := K) rfl) pe_int (pe_callB (call_lenA (K := K) rfl) (by rfl) T.n_len (by decide +kernel) (pa_cons (pv 5) pa_nil))) (pv 9)) (fun _ _ => rfl)) (pa_cons (pe_callG (ok__law_of T) hG (hr.mono (by first | decide | omega)) (by rfl) T.g__law_of T.F__law_of.kp T.b__law_of .nil pass0 (pa_cons (pv 0) (pa_cons (pv 5) pa_nil))) (pa_cons (pe_callTy (call_tupleK (K := K) rfl) (by rfl) T.n_tuple (by decide +kernel) (pa_cons (pv 8) pa_nil)) pa_nil)))) pa_nil))))))
  (pss_one (ps_ret (pe_callG (ok__law_mixed T) hG (hr.mono (by first | decide | omega)) (by rfl) T.g__law_mixed T.F__law_mixed.kp T.b__law_mixed .nil pass0 (pa_cons (pv 0) (pa_cons (pv 6) pa_nil))))))))), ?_⟩
  intro ds h Q z
  try dsimp only [cxOf, Cx.nox, Cx.wish]
  obtain ⟨a, la, names, mk, mm, mp, rfl, ea, hnm, k1, k4, m5, p3, hlen, hlen2, k⟩ := z
  walk_at "dd"
  refine ⟨a, la, _, rfl, ea, by omega, Int.lt_of_le_of_lt (b := 10) (by omega) (by decide), fun j0 jz jm => ?_⟩
  obtain ⟨nk', rfl⟩ := Int.eq_ofNat_of_zero_le jz
  walk_at "dd"
  rw [show (1 + (nk' : Int)) = ((nk' + 1 : Nat) : Int) from by omega, dcut_take, ← List.map_take]
  generalize hnk : nk' + 1 = nk
  have hk : nk ≤ mk := by omega
  have hk1 : 1 ≤ nk := by omega
  generalize hkinds : names.take nk = kinds
  have lk : kinds.length = nk := by rw [← hkinds, List.length_take]; omega
  have kin : ∀ z ∈ kinds, z ∈ names := fun z hz => by rw [← hkinds] at hz; exact List.mem_of_mem_take hz
  have ndk : kinds.Nodup := by rw [← hkinds]; exact hnm.nd.sublist (List.take_sublist _ _)
  refine d_lstC (d_nil ⟨by decide, fun f nf => ?_⟩)
  have nfa := h_ne ea nf
  walk_at "dd"
  refine for_D [7, 8, 9] (List.range nk) (fun i => .int (i : Int)) (by rw [List.length_map, lk]; exact rngD_nat nk) (fun i ρ h' => ∃ ts1 : List Trip, ρ = [some (.ref a), some (.lst (strsD names)), some (.int mk), some (.int mm), some (.int mp), some (.lst (strsD kinds)), some (.ref f), none, none, none, none] ∧
    h' = seth h f (.lst (ts1.map trD)) ∧ ts1.length = i ∧ ts1.map (·.1) = (names.drop nk).take i ∧ ts1.map (·.2.1) = kinds.take i ∧ ∀ (j : Nat) (t : Trip), ts1[j]? = some t → (∀ p ∈ t.2.2, p ∈ kinds.take j) ∧ t.2.2.length ≤ 1) ?_ (fun _ _ _ _ _ => trivial) ?_ ?_
  · exact ⟨[], rfl, rfl, rfl, rfl, rfl, fun j t e => by cases e⟩
  · rintro i x ρ h' ei ⟨ts1, rfl, rfl, l1, tn, tk, low⟩
    have hi : i < nk := by
      have := (List.getElem?_eq_some_iff.mp ei).1
      rwa [List.length_range] at this
    rw [List.getElem?_range hi] at ei
    cases ei
    walk_at "dd"
    refine ⟨a, la, 2, rfl, by walk_at "hc", by decide, by decide, fun d d0 d2 => ?_⟩
    walk_at "dd"
    generalize hcnt : (d * if (1 : Int) < (i : Int) then (1 : Int) else (i : Int)) = cnt
    have hc1 : cnt ≤ 1 ∧ (1 ≤ cnt → 1 ≤ i) ∧ 0 ≤ cnt := by
      have hd : d = 0 ∨ d = 1 := by omega
      rcases hd with rfl | rfl
      · omega
      · split at hcnt <;> omega
    obtain ⟨n1, en1⟩ : ∃ n1, names[nk + i]? = some n1 := ⟨_, List.getElem?_eq_getElem (show nk + i < names.length by omega)⟩
    obtain ⟨z1, ez1⟩ : ∃ z1, kinds[i]? = some z1 := ⟨_, List.getElem?_eq_getElem (show i < kinds.length by omega)⟩
    have en2 : (strsD names)[nk + i]? = some (.str n1) := by rw [List.getElem?_map, en1]; rfl
    have ez2 : (strsD kinds)[i]? = some (.str z1) := by rw [List.getElem?_map, ez1]; rfl
    have lk2 : (strsD kinds).length = nk := by rw [List.length_map, lk]
    walk_at "dd"
    rw [rngD_n]
    refine lc_rel (List.range cnt.toNat) (fun i => .int (i : Int)) D.str (fun _ _ z => z ∈ kinds.take i) rfl (by rw [List.length_range]; omega) .t ?_ ?_
    · intro p acc j x np ej
      have hj : 1 ≤ cnt := by
        have := (List.getElem?_eq_some_iff.mp ej).1
        rw [List.length_range] at this
        omega
      have hi1 := hc1.2.1 hj
      walk_at "dd"
      rw [dcut_take, ← List.map_take]
      refine ⟨a, la, _, _, rfl, by walk_at "hc", .f, ?_, ?_, fun y hy => ?_⟩
      · intro e0
        have := congrArg List.length e0
        rw [List.length_map, List.length_take] at this
        have : min i kinds.length = 0 := this
        omega
      · rw [List.length_map, List.length_take]
        omega
      · obtain ⟨z, hz, rfl⟩ := List.mem_map.mp hy
        exact ⟨rfl, z, rfl, hz⟩
    · intro zs hzl hzs
      rw [List.length_range] at hzl
      refine .f ?_
      walk_at "dd"
      refine ⟨ts1 ++ [(n1, z1, zs)], rfl, ?_, ?_, ?_, ?_, ?_⟩
      · rw [seth_seth, List.map_append]
        rfl
      · rw [List.length_append, l1]
        rfl
      · rw [List.map_append, tn, List.take_succ, List.getElem?_drop, en1]
        rfl
      · rw [List.map_append, tk, List.take_succ, ez1]
        rfl
      · intro j t ej
        by_cases hj : j < ts1.length
        · rw [List.getElem?_append_left hj] at ej
          exact low j t ej
        · rw [List.getElem?_append_right (by omega)] at ej
          have e0 : j = i := by
            cases ez : j - ts1.length with
            | zero => omega
            | succ m => rw [ez] at ej; cases ej
          subst e0
          rw [l1, Nat.sub_self] at ej
          cases ej
          refine ⟨fun p hp => ?_, by show zs.length ≤ 1; omega⟩
          obtain ⟨u, hu⟩ := List.getElem?_of_mem hp
          have hu2 : u < zs.length := (List.getElem?_eq_some_iff.mp hu).1
          exact hzs u u p (List.getElem?_range (by omega)) hu
  · rintro ρ h' ⟨ts1, rfl, rfl, l1, tn, tk, low⟩
    rw [List.length_range] at l1 tn tk
    rw [← lk, List.take_length] at tk
    walk_at "dd"
    refine ⟨a, la, _, rfl, by walk_at "hc", by omega, Int.lt_of_le_of_lt (b := 10) (by omega) (by decide), fun j1 z1 jm1 => ?_⟩
    obtain ⟨nm, rfl⟩ := Int.eq_ofNat_of_zero_le z1
    walk_at "dd"
    rw [rngD_n]
    refine for_D [8, 9, 10] (List.range (nm : Int).toNat) (fun i => .int (i : Int)) rfl (fun i ρ h' => ∃ more : List Trip, ρ = [some (.ref a), some (.lst (strsD names)), some (.int mk), some (.int mm), some (.int mp), some (.lst (strsD kinds)), some (.ref f), none, none, none, none] ∧
      h' = seth h f (.lst ((ts1 ++ more).map trD)) ∧ more.length = i ∧ (ts1 ++ more).map (·.1) = (names.drop nk).take (nk + i) ∧ ∀ t ∈ more, t.2.1 ∈ kinds ∧ (∀ p ∈ t.2.2, p ∈ kinds) ∧ t.2.2.length ≤ 3) ?_ (fun _ _ _ _ _ => trivial) ?_ ?_
    · exact ⟨[], rfl, by rw [List.append_nil], rfl, by rw [List.append_nil, tn, Nat.add_zero], fun t e => by cases e⟩
    · rintro i x ρ h' ei ⟨more, rfl, rfl, l2, tn2, hmo⟩
      have hi : i < nm := by
        have := (List.getElem?_eq_some_iff.mp ei).1
        rw [List.length_range] at this
        omega
      rw [List.getElem?_range (by omega)] at ei
      cases ei
      obtain ⟨n1, en1⟩ : ∃ n1, names[2 * nk + i]? = some n1 := ⟨_, List.getElem?_eq_getElem (show 2 * nk + i < names.length by omega)⟩
      have en2 : (strsD names)[2 * nk + i]? = some (.str n1) := by rw [List.getElem?_map, en1]; rfl
      have lk2 : (strsD kinds).length = nk := by rw [List.length_map, lk]
      have kne : strsD kinds ≠ [] := fun e0 => by
        have := congrArg List.length e0
        rw [lk2] at this
        have : nk = 0 := this
        omega
      walk_at "dd"
      refine ⟨a, la, _, rfl, by walk_at "hc", by omega, Int.lt_of_le_of_lt (b := 10) (by omega) (by decide), fun j2 z2 jm2 => ?_⟩
      walk_at "dd"
      rw [rngD_n]
      refine lc_rel (List.range j2.toNat) (fun i => .int (i : Int)) D.str (fun _ _ z => z ∈ kinds) rfl (by rw [List.length_range]; omega) .t ?_ ?_
      · intro p acc j x np ej
        walk_at "dd"
        refine ⟨a, la, _, _, rfl, by walk_at "hc", .f, kne, by omega, fun y hy => ?_⟩
        obtain ⟨z, hz, rfl⟩ := List.mem_map.mp hy
        exact ⟨rfl, z, rfl, hz⟩
      · intro zs hzl hzs
        rw [List.length_range] at hzl
        refine .f ?_
        walk_at "dd"
        refine ⟨a, la, _, _, rfl, by walk_at "hc", .f, kne, by omega, fun y hy => ?_⟩
        obtain ⟨kd, hkd, rfl⟩ := List.mem_map.mp hy
        have lts : ((ts1 ++ more).map trD).length ≤ 1000 := by rw [List.length_map, List.length_append]; omega
        walk_at "dd"
        refine ⟨more ++ [(n1, kd, zs)], rfl, ?_, ?_, ?_, ?_⟩
        · rw [seth_seth, ← List.append_assoc, List.map_append, List.map_append (l₁ := ts1 ++ more), List.map_append]
          rfl
        · rw [List.length_append, l2]
          rfl
        · rw [← List.append_assoc, List.map_append, tn2, ← Nat.add_assoc, List.take_succ, List.getElem?_drop, show nk + (nk + i) = 2 * nk + i from by omega, en1]
          rfl
        · intro t ht
          rcases List.mem_append.mp ht with h | h
          · exact hmo t h
          · rw [List.mem_singleton.mp h]
            refine ⟨hkd, fun p hp => ?_, by show zs.length ≤ 3; omega⟩
            obtain ⟨u, hu⟩ := List.getElem?_of_mem hp
            have hu2 : u < zs.length := (List.getElem?_eq_some_iff.mp hu).1
            exact hzs u u p (List.getElem?_range (by omega)) hu
    · rintro ρ h' ⟨more, rfl, rfl, l2, tn2, hmo⟩
      rw [List.length_range] at l2 tn2
      have hd : DrawnT names kinds ts1 more := ⟨by
        rw [tn2, List.length_append, lk]
        congr 1
        omega, tk, fun j t e => ⟨(low j t e).1, Nat.le_trans (low j t e).2 (by decide)⟩, hmo⟩
      have good := hd.good hnm.nd hnm.nm kin ndk (by omega) (by omega)
      refine dS_frz (i := 6) (x := .ref f) rfl (.lst seth_same .id) ?_
      rw [delh_seth nf]
      walk_at "dd"
      refine ⟨a, la, _, rfl, ea, by rw [List.length_map]; exact good.few, fun ys py => ?_⟩
      obtain ⟨us, rfl, pu⟩ := perm_map_inv trD py _ rfl
      have inK : ∀ t ∈ us, t.2.1 ∈ kinds := fun t ht => by
        rcases List.mem_append.mp (pu.mem_iff.mp ht) with h | h
        · rw [← tk]
          exact List.mem_map_of_mem h
        · exact (hmo t h).1
      refine Fresh.toF (k us (good.perm pu) ?_ ?_ ?_)
      · intro e0
        subst e0
        have := pu.length_eq
        rw [List.length_append] at this
        have : (0 : Nat) = ts1.length + more.length := this
        omega
      · intro t ht
        have ht := pu.mem_iff.mp ht
        have q : t.1 ∈ (ts1 ++ more).map (·.1) := List.mem_map_of_mem ht
        rw [tn2] at q
        exact ⟨List.mem_of_mem_drop (List.mem_of_mem_take q), kin _ (inK t (pu.mem_iff.mpr ht))⟩
      · refine ⟨nk, by rw [pu.length_eq, List.length_append]; omega, fun k2 hk2 => ?_⟩
        obtain ⟨t, ht, e2⟩ := (mem_kindsOf _ _).mp hk2
        obtain ⟨j, hj⟩ := List.getElem?_of_mem (e2 ▸ inK t ht)
        have hj2 := (List.getElem?_eq_some_iff.mp hj).1
        exact ((ez_drawn tk low j k2 hj).perm fun t ht => pu.mem_iff.mpr (List.mem_append_left _ ht)).up nk (by omega)
/-- the signature made of triples, their parts passed as lists or tuples -/
def tMade (C : Addr) : TD := fun ds h Q => ∃ (a la : Addr) (ts : List Trip), ds = [.ref a, .lst (ts.map trD)] ∧ h a = some (.src la) ∧ Good isNm ts ∧ Q (sigD C ts) h
theorem sc__law_made : FnScope ["_law_src", "_law_triples", "_law_constructor", "_law_kind", "_law_parts"] ["_law_src", "_law_triples"] (defScope s__law_made) :=
  ⟨rfl, rfl, rfl, by decide +kernel, rfl, by decide +kernel, by decide +kernel⟩
theorem ok__law_made (T : Txt K mg e) : FnG P w K mg base CX0 7 e.f__law_made e.d__law_made ["_law_src", "_law_triples"] (spD (tMade e.C_Signature)) := by
  refine okD T.F__law_made sc__law_made (fun ds h Q z => by obtain ⟨a, la, ts, rfl, _⟩ := z; rfl) (fun cdv A outer s H E hG hr => ?_)
  refine ⟨_, (pss_one (ps_ret (pe_makeG T.M_Signature (ok_Signature___init__ T) hG (hr.mono (by first | decide | omega)) (by rfl) T.g_Signature T.b_Signature___init__ .nil pass0 (pa_cons (pe_lc (own := [("_law_constructor", 2), ("_law_kind", 3), ("_law_parts", 4)]) (g := (gSeq K 3 (gCons (gName 2) (gCons (gName 3) (gCons (gName 4) gNil))))) (tt := tYes) rfl sc__law_made.nd (pi_seqK (K := K) rfl (pv 1)) (blkOk_by (own := [("_law_constructor", 2), ("_law_kind", 3), ("_law_parts", 4)]) (N := ["_law_src", "_law_triples", "_law_constructor", "_law_kind", "_law_parts"]) (sc := defScope (top 40)) (by decide +kernel)) (fun _ _ _ _ _ => (pg_seqK (K := K) rfl rfl (pgs_cons (pg_name (i := 2) sc__law_made.nd rfl (by first | exact Or.inl rfl | exact Or.inr rfl)) (pgs_cons (pg_name (i := 3) sc__law_made.nd rfl (by first | exact Or.inl rfl | exact Or.inr rfl)) (pgs_cons (pg_name (i := 4) sc__law_made.nd rfl (by first | exact Or.inl rfl | exact Or.inr rfl)) pgs_nil))))) (fun _ _ _ _ _ => pts_nil) (fun _ _ _ _ _ => (pe_tup (pa_cons (pv 2) (pa_cons (pv 3) (pa_cons (pe_ifExp (pt_cmpR (op_eqG (K := K) rfl hr.units) (pe_callG (ok__law_draw T) hG (hr.mono (by first | decide | omega)) (by rfl) T.g__law_draw T.F__law_draw.kp T.b__law_draw .nil pass0 (pa_cons (pv 0) (pa_cons pe_int pa_nil))) pe_int (nomark _)) (pe_callTy (call_listA (K := K) rfl rfl) (by rfl) T.n_list (by decide +kernel) (pa_cons (pv 4) pa_nil)) (pv 4)) pa_nil)))))) pa_nil)))), ?_⟩
  intro ds h Q z
  try dsimp only [cxOf, Cx.nox, Cx.wish]
  obtain ⟨a, la, ts, rfl, ea, good, k⟩ := z
  have few := good.few
  walk_at "dd"
  refine lc_rel ts trD id (fun _ t y => PassT y t) rfl (by omega) .t ?_ ?_
  · intro p acc i t np et
    walk_at "dd"
    refine ⟨a, la, 2, rfl, by walk_at "hc", by decide, by decide, fun d d0 d2 => ?_⟩
    walk_at "dd"
    refine ite_b (fun _ => ?_) (fun _ => ?_)
    · walk_at "dd"
      exact ⟨_, rfl, _, .inl rfl, .inr rfl⟩
    · walk_at "dd"
      exact ⟨_, rfl, _, .inl rfl, .inl rfl⟩
  · intro bs hl hb
    refine .f ?_
    rw [List.map_id]
    walk_at "dd"
    intro o no
    refine ⟨o, bs, ts, h, rfl, rfl, no, good, hl, fun i x t ex et => hb i t x et ex, fun de dg A c => ⟨rfl, _, _, sigH_frz c, k⟩⟩
end

end Toy

set_option Elab.async false
set_option linter.all false
set_option maxRecDepth 100000
set_option maxHeartbeats 4000000
namespace Toy
open PySem L2 GX PySem.Spec TL
/-! ### one step of a reading over data -/
local macro_rules | `(tactic| walk_at "d1") => `(tactic| with_reducible first
  | refine' d_seq ?_ | refine' d_asg ?_ | refine' d_retF ?_ | refine' d_retN ?_ | refine' d_drop ?_ | refine' d_next ?_ | refine' d_break ?_ | refine' d_cont ?_ | refine' d_ifS ?_ | refine' d_par ?_ | refine' d_pr ?_
  | refine' d_cInt ?_ | refine' d_cBl ?_ | refine' d_cStr ?_ | refine' d_cNon ?_ | refine' d_op ?_ | refine' d_un ?_ | refine' d_test ?_ | refine' d_B ?_ | refine' d_bl ?_
  | refine' d_and ?_ | refine' d_or ?_ | refine' d_not ?_ | refine' d_yes ?_ | refine' d_if ?_ | refine' d_andV ?_ | refine' d_orV ?_ | refine' d_notV ?_ | refine' d_chain ?_
  | refine' d_nil ?_ | refine' d_cons ?_ | refine' d_CB ?_ | refine' d_tup ?_ | refine' d_call ?_ | refine' d_fld ?_ | refine' d_sfld ?_ | refine' d_meth ?_ | refine' d_make ?_
  | refine' d_din ?_ | refine' d_dnin ?_ | refine' d_dget ?_ | refine' d_dput ?_ | refine' d_dsetd ?_ | refine' d_for ?_ | refine' d_lc ?_
  | refine' i_seq ?_ | refine' i_list ?_ | refine' i_tup ?_ | refine' i_str ?_ | refine' i_rng1 ?_ | refine' i_rng2 ?_ | refine' i_rng3 ?_ | refine' i_zip ?_ | refine' i_enum ?_
  | refine' d_sl ?_ | refine' d_part ?_ | refine' d_nopart ?_ | refine' d_M1 ?_ | refine' d_M0 ?_ | refine' x_part ?_ | refine' x_strE ?_ | refine' x_seqF ?_ | refine' x_seqT ?_ | refine' x_lstF ?_ | refine' x_isLf ?_
  | refine' ⟨_, g_name ?_⟩ | refine' g_name ?_ | refine' g_nil ?_ | refine' g_cons ?_ | refine' ⟨_, g_sub ?_⟩ | refine' x_same ?_ | refine' d_BML rfl ?_ | refine' d_BML0 rfl ?_)
local macro_rules | `(tactic| walk_at "dv") => `(tactic| ((with_reducible refine' d_var ?hv ?_); (case hv => rfl)))
/-- a cell's content -/
local macro_rules | `(tactic| walk_at "hn") => `(tactic| first
  | assumption | exact Ne.symm (by assumption)
  | ((refine' h_ne ?ha ?hb); (case hb => assumption); (case ha => walk_at "hc"))
  | ((refine' Ne.symm (h_ne ?ha ?hb)); (case hb => assumption); (case ha => walk_at "hc")))
local macro_rules | `(tactic| walk_at "hc") => `(tactic| first
  | assumption | exact seth_same
  | ((refine' (seth_ne ?hn).trans ?hh); (case hn => walk_at "hn"); (case hh => walk_at "hc")))
/-- a sequence seen -/
local macro_rules | `(tactic| walk_at "sq") => `(tactic| first
  | exact LsV.f | exact SqV.l | exact SqV.t | assumption | exact Or.inl (by assumption) | ((refine' LsV.c ?e0); (case e0 => walk_at "hc")) | ((refine' SqV.c ?e0); (case e0 => walk_at "hc")) | assumption)
local macro_rules | `(tactic| walk_at "lk") => `(tactic| first | (with_reducible exact lk0) | exact lkN | (refine lkS (by decide +kernel) ?_; walk_at "lk"))
local macro_rules | `(tactic| walk_at "iv") => `(tactic| first | exact InsV.f | assumption | ((refine' InsV.c ?e0); (case e0 => walk_at "hc")))
local macro_rules | `(tactic| walk_at "dk") => `(tactic| first | exact DkV.f | assumption | ((refine' DkV.c ?e0); (case e0 => walk_at "hc")))
local macro_rules | `(tactic| walk_at "cls") => `(tactic| first | assumption | exact Txt.c_Signature (by assumption) | exact Txt.a_Signature_entries (by assumption) | exact Txt.a_Signature_grouped (by assumption))
local macro_rules | `(tactic| walk_at "he") => `(tactic| first | rfl | assumption | exact atI_nat (by assumption) | exact atI_eq (by assumption) (by omega))
local macro_rules | `(tactic| walk_at "hl") => `(tactic| first | assumption | (simp only [List.length_map, List.length_append, List.length_cons, List.length_nil, List.length_replicate, strLen_append]; omega) | omega | decide)
local macro_rules | `(tactic| walk_at "dx") => `(tactic| first
  | ((with_reducible refine' d_aug ?hv ?_); (case hv => rfl))
  | ((with_reducible refine' ⟨_, g_tup ?hl ?_⟩); (case hl => rfl))
  | ((with_reducible refine' g_tup ?hl ?_); (case hl => rfl))
  | ((with_reducible refine' ⟨_, g_seqT ?hl ?_⟩); (case hl => rfl))
  | ((with_reducible refine' g_seqT ?hl ?_); (case hl => rfl))
  | ((with_reducible refine' ⟨_, g_seqL ?hx ?hl ?_⟩); (case hx => walk_at "sq"); (case hl => rfl))
  | ((with_reducible refine' g_seqL ?hx ?hl ?_); (case hx => walk_at "sq"); (case hl => rfl))
  | ((with_reducible refine' g_nameV ?hm ?_); (case hm => simp))
  | (with_reducible refine' g_consV ?_)
  | (with_reducible refine' g_nilV ?_)
  | ((with_reducible refine' x_seqC ?hs ?_); (case hs => walk_at "hc"))
  | ((with_reducible refine' x_lstC ?hs ?_); (case hs => walk_at "hc"))
  | ((with_reducible refine' x_isL ?hs ?_); (case hs => walk_at "hc"))
  | ((with_reducible refine' x_size ?hs ?_); (case hs => walk_at "hl"))
  | ((with_reducible refine' x_rg1 ?hs ?_); (case hs => constructor <;> first | omega | (simp only [List.length_map]; omega)))
  | ((with_reducible refine' x_rg2 ?hs ?_); (case hs => refine ⟨?_, ?_, ?_, ?_⟩ <;> first | omega | (simp only [List.length_map]; omega)))
  | (with_reducible refine' w_addI ?_)
  | ((with_reducible refine' w_mulI ?hc ?_); (case hc => first | assumption | exact cmul_small (by constructor <;> omega) (by constructor <;> omega)))
  | (with_reducible refine' v_I0i ?_)
  | (with_reducible refine' v_I0b ?_)
  | (with_reducible refine' v_Ui ?_)
  | (with_reducible refine' w_eqI ?_)
  | (with_reducible refine' w_eqS ?_)
  | (with_reducible refine' w_eqB ?_)
  | (with_reducible refine' w_neI ?_)
  | (with_reducible refine' w_neS ?_)
  | (with_reducible refine' w_neB ?_)
  | (with_reducible refine' v_isN ?_)
  | (with_reducible refine' v_notN ?_)
  | (with_reducible refine' w_inSign ?_)
  | ((with_reducible refine' w_inS ?hs ?_); (case hs => walk_at "sq"))
  | ((with_reducible refine' w_ninS ?hs ?_); (case hs => walk_at "sq"))
  | ((with_reducible refine' w_inI ?hs ?_); (case hs => walk_at "sq"))
  | ((with_reducible refine' w_ninI ?hs ?_); (case hs => walk_at "sq"))
  | ((with_reducible refine' w_addS ?hl ?_); (case hl => walk_at "hl"))
  | ((with_reducible refine' w_catT ?hl ?_); (case hl => walk_at "hl"))
  | ((with_reducible refine' w_slS ?hl ?_); (case hl => walk_at "hl"))
  | (with_reducible refine' w_slT ?_)
  | ((with_reducible refine' w_slL ?hs (.f ?_)); (case hs => walk_at "sq"))
  | ((with_reducible refine' w_lenS ?hl ?_); (case hl => walk_at "hl"))
  | ((with_reducible refine' w_len ?hs ?_); (case hs => walk_at "sq"))
  | ((with_reducible refine' w_lenD ?hs ?_); (case hs => walk_at "dk"))
  | ((with_reducible refine' v_tupOf ?hs ?_); (case hs => walk_at "sq"))
  | ((with_reducible refine' w_list ?hs (.f ?_)); (case hs => walk_at "sq"))
  | ((with_reducible refine' v_sum ?hs ?_); (case hs => walk_at "sq"))
  | ((with_reducible refine' v_all ?hs ?_); (case hs => walk_at "sq"))
  | ((with_reducible refine' v_any ?hs ?_); (case hs => walk_at "sq"))
  | (with_reducible refine' v_max2 ?_)
  | (with_reducible refine' v_min2 ?_)
  | (with_reducible refine' v_int1 ?_)
  | (with_reducible refine' v_int1b ?_)
  | (with_reducible refine' v_abs ?_)
  | ((with_reducible refine' w_ixT ?he ?_); (case he => walk_at "he"))
  | ((with_reducible refine' w_ixL ?hs ?he ?_); (case hs => walk_at "sq"); (case he => walk_at "he"))
  | ((with_reducible refine' v_app ?hs ?hl ?_); (case hs => walk_at "hc"); (case hl => walk_at "hl"))
  | ((with_reducible refine' v_insert ?hs ?hl ?h0 ?_); (case hs => walk_at "hc"); (case hl => walk_at "hl"); (case h0 => constructor <;> omega))
  | ((with_reducible refine' x_fldV ?hi ?hc ?hn ?hl ?_); (case hi => walk_at "iv"); (case hc => walk_at "cls"); (case hn => walk_at "cls"); (case hl => walk_at "lk"))
  | ((with_reducible refine' x_methV ?hi ?hl ?_); (case hi => walk_at "iv"); (case hl => walk_at "lk"))
  | ((with_reducible refine' x_sfldC ?hs ?hc ?hn ?hl ?_); (case hs => walk_at "hc"); (case hc => walk_at "cls"); (case hn => walk_at "cls"); (case hl => first | simp | (refine Nat.lt_of_le_of_lt putFD_len ?_; simp) | (refine Nat.lt_of_le_of_lt putFD_len (Nat.lt_of_le_of_lt (Nat.succ_le_succ putFD_len) ?_); simp)))
  | ((with_reducible refine' x_inS ?hs ?_); (case hs => walk_at "dk"))
  | ((with_reducible refine' x_inI ?hs ?_); (case hs => walk_at "dk"))
  | ((with_reducible refine' x_getS ?hs ?he ?_); (case hs => walk_at "dk"); (case he => assumption))
  | ((with_reducible refine' x_getI ?hs ?he ?_); (case hs => walk_at "dk"); (case he => assumption))
  | ((with_reducible refine' x_putS ?hs ?hl ?_); (case hs => walk_at "hc"); (case hl => walk_at "hl"))
  | ((with_reducible refine' x_putI ?hs ?hl ?_); (case hs => walk_at "hc"); (case hl => walk_at "hl"))
  | ((with_reducible refine' x_isK ?hs ?_); (case hs => walk_at "dk"))
  | ((with_reducible refine' x_isDV ?hs ?_); (case hs => walk_at "dk")))
local macro_rules | `(tactic| walk_at "dd") => `(tactic| repeat' (first | walk_at "d1" | walk_at "dv" | walk_at "dx"))

/-! ### trees judged -/
section
variable {P : Program} {w : World} {K : PySem.W.Frag} {mg : Str → Option Value} {base : Heap} {e : Env}
def tSize (d : Nat) : TD := fun ds h Q => ∃ t : T, ds = [tD t] ∧ tdp t ≤ d ∧ tsz t ≤ 1000000 ∧ Q (.int (tsz t : Int)) h
theorem sc_size : FnScope ["tree", "child"] ["tree"] (defScope s_size) :=
  ⟨rfl, rfl, rfl, by decide +kernel, rfl, by decide +kernel, by decide +kernel⟩
theorem tdp_pos (t : T) : 0 < tdp t := by
  cases t
  rw [tdp]
  omega
theorem ok_size (T : Txt K mg e) (d : Nat) : FnG P w K mg base CX0 (d + 1) e.f_size e.d_size ["tree"] (spD (tSize d)) := by
  induction d with
  | zero =>
    refine okG T.F_size sc_size (fun vs H Q E h => ?_) (fun cdv A outer s H vs Q E hG hr h => ?_)
    · obtain ⟨ds, h, Q2, a, r, ⟨t, rfl, hd, _⟩, po⟩ := h
      exact absurd hd (Nat.not_le.mpr (tdp_pos t))
    · obtain ⟨ds, h, Q2, a, r, ⟨t, rfl, hd, _⟩, po⟩ := h
      exact absurd hd (Nat.not_le.mpr (tdp_pos t))
  | succ d ih =>
    refine okD T.F_size sc_size (fun ds h Q z => by obtain ⟨t, rfl, _⟩ := z; rfl) (fun cdv A outer s H E hG hr => ?_)
    refine ⟨_, (pss_one (ps_ret (pe_op (op_addG (K := K) rfl) pe_int (pe_callB (cr_sumK (K := K) rfl rfl) (by rfl) T.n_sum (by decide +kernel) (pa_cons (pe_lc (own := [("child", 1)]) (g := (gName 1)) (tt := tYes) rfl sc_size.nd (pi_seqK (K := K) rfl (pe_slice (sl_G (K := K) rfl) (pv 0) (po_some pe_int) po_none)) (blkOk_by (own := [("child", 1)]) (N := ["tree", "child"]) (sc := defScope (top 14)) (by decide +kernel)) (fun _ _ _ _ _ => (pg_name (i := 1) sc_size.nd rfl (by first | exact Or.inl rfl | exact Or.inr rfl))) (fun _ _ _ _ _ => pts_nil) (fun _ _ _ _ _ => (pe_callG ih hG hr (by rfl) T.g_size T.F_size.kp T.b_size .nil pass0 (pa_cons (pv 1) pa_nil)))) pa_nil))))), ?_⟩
    intro ds h Q z
    try dsimp only [cxOf, Cx.nox, Cx.wish]
    obtain ⟨t, rfl, hd, hz, k⟩ := z
    cases t with
    | node c ch =>
      rw [tdp] at hd
      rw [tsz] at hz k
      rw [tD_node]
      have few := len_tszs ch
      walk_at "dd"
      rw [show (1 : Int) = ((1 : Nat) : Int) from rfl, dcut_drop]
      show dLcGo _ _ _ _ _ _ (ch.map tD) _ _
      refine lc_map ch tD (fun t => natD (tsz t)) rfl (by omega) .t ?_ (.f ?_)
      · intro p acc j t np ej
        have tm := List.mem_of_getElem? ej
        have h1 := tdps_le tm
        have h2 := tsz_mem tm
        walk_at "dd"
        exact ⟨t, rfl, by omega, by omega, rfl, rfl⟩
      · walk_at "dd"
        refine v_sum (ns := ch.map fun t => ((tsz t : Nat) : Int)) (by rw [List.map_map]; exact .f) ?_
        walk_at "dd"
        have ev : (ch.map fun t => ((tsz t : Nat) : Int)).sum = ((tszs ch : Nat) : Int) := by
          rw [tszs_sum, ← vints_sum, List.map_map]
          rfl
        rw [ev, show ((1 : Nat) : Int) + ((tszs ch : Nat) : Int) = ((1 + tszs ch : Nat) : Int) from by omega]
        exact frz0 k
def tKindWithin (C : Addr) (d : Nat) : TD := fun ds h Q => ∃ (t : T) (ts : List Trip) (k : Str) (n : Nat), ds = [sigD C ts, tD t, .int (n : Int)] ∧ Good isNm ts ∧ Ty ts k t ∧ tdp t ≤ d ∧ n + tdp t ≤ 61 ∧ Q (.str k) h
theorem sc_kind_within : FnScope ["signature", "tree", "depth", "constructor", "children", "parts", "part", "child"] ["signature", "tree", "depth"] (defScope s_kind_within) :=
  ⟨rfl, rfl, rfl, by decide +kernel, rfl, by decide +kernel, by decide +kernel⟩
theorem ok_kind_within (T : Txt K mg e) (d : Nat) : FnG P w K mg base CX0 (d + 3) e.f_kind_within e.d_kind_within ["signature", "tree", "depth"] (spD (tKindWithin e.C_Signature d)) := by
  induction d with
  | zero =>
    refine okG T.F_kind_within sc_kind_within (fun vs H Q E h => ?_) (fun cdv A outer s H vs Q E hG hr h => ?_)
    · obtain ⟨ds, h, Q2, a, r, ⟨t, ts, k, n, rfl, _, _, hd, _⟩, po⟩ := h
      exact absurd hd (Nat.not_le.mpr (tdp_pos t))
    · obtain ⟨ds, h, Q2, a, r, ⟨t, ts, k, n, rfl, _, _, hd, _⟩, po⟩ := h
      exact absurd hd (Nat.not_le.mpr (tdp_pos t))
  | succ d ih =>
    refine okD T.F_kind_within sc_kind_within (fun ds h Q z => by obtain ⟨t, ts, k, n, rfl, _⟩ := z; rfl) (fun cdv A outer s H E hG hr => ?_)
    refine ⟨_, (pss_cons (ps_if (PW.pt (pw_or (pt_cmpR op_gt (pv 2) (pe_glob (v := .int 60) (by rfl) T.g_MOST_DEPTH.choose_spec ⟨_, rfl⟩) (nomark _)) (pw_or (pt_not (pt_val (pe_callB (call_isiK (K := K) rfl) (by rfl) T.n_isinstance (by decide +kernel) (pa_cons (pv 1) (pa_cons (pe_bltn (v := .ty "tuple") (by rfl) T.n_tuple (by decide +kernel) rfl) pa_nil))))) (pw_or (pt_cmpR (op_eqG (K := K) rfl hr.units) (pe_callB (call_lenA (K := K) rfl) (by rfl) T.n_len (by decide +kernel) (pa_cons (pv 1) pa_nil)) pe_int (nomark _)) (pw_or1 (pt_not (pt_val (pe_callB (call_isiK (K := K) rfl) (by rfl) T.n_isinstance (by decide +kernel) (pa_cons (pe_ix (ix_seqK (K := K) rfl) (pv 1) pe_int (fun _ _ => rfl)) (pa_cons (pe_bltn (v := .ty "str") (by rfl) T.n_str (by decide +kernel) rfl) pa_nil))))))))))
    (pss_one ps_never)
    pss_nil)
  (pss_cons (ps_asg (pv 1) (pg_star (K := K) rfl rfl (pgs_cons (pg_name (i := 3) sc_kind_within.nd rfl (by first | exact Or.inl rfl | exact Or.inr rfl)) (pgs_cons (pg_name (i := 4) sc_kind_within.nd rfl (by first | exact Or.inl rfl | exact Or.inr rfl)) pgs_nil))))
  (pss_cons (ps_if (pt_not (pt_val (pe_methG (pv 0) T.c_Signature T.m_Signature_has (ok_Signature_has T) hG (hr.mono (by first | decide | omega)) T.b_Signature_has .nil pass0 (pa_cons (pv 3) pa_nil))))
    (pss_one ps_never)
    pss_nil)
  (pss_cons (ps_set (i := 5) sc_kind_within.nd rfl (by first | exact Or.inl rfl | exact Or.inr rfl) (pe_methG (pv 0) T.c_Signature T.m_Signature_parts (ok_Signature_parts T) hG (hr.mono (by first | decide | omega)) T.b_Signature_parts .nil pass0 (pa_cons (pv 3) pa_nil)))
  (pss_cons (ps_if (pt_cmpR (op_neG (K := K) rfl hr.units) (pe_callB (call_lenA (K := K) rfl) (by rfl) T.n_len (by decide +kernel) (pa_cons (pv 5) pa_nil)) (pe_callB (call_lenA (K := K) rfl) (by rfl) T.n_len (by decide +kernel) (pa_cons (pv 4) pa_nil)) (nomark _))
    (pss_one ps_never)
    pss_nil)
  (pss_cons (ps_for PassesOwn.never rfl (pi_zipG (K := K) rfl (by rfl) T.n_zip (pa_cons (pv 5) (pa_cons (pv 4) pa_nil))) (pg_seqK (K := K) rfl rfl (pgs_cons (pg_name (i := 6) sc_kind_within.nd rfl (by first | exact Or.inl rfl | exact Or.inr rfl)) (pgs_cons (pg_name (i := 7) sc_kind_within.nd rfl (by first | exact Or.inl rfl | exact Or.inr rfl)) pgs_nil)))
    (pss_one (ps_if (pt_cmpR (op_neG (K := K) rfl hr.units) (pe_callG ih hG hr (by rfl) T.g_kind_within T.F_kind_within.kp T.b_kind_within .nil pass0 (pa_cons (pv 0) (pa_cons (pv 7) (pa_cons (pe_op (op_addG (K := K) rfl) (pv 2) pe_int) pa_nil)))) (pv 6) (nomark _))
        (pss_one ps_never)
        pss_nil)))
  (pss_one (ps_ret (pe_methG (pv 0) T.c_Signature T.m_Signature_kind_of (ok_Signature_kind_of T) hG (hr.mono (by first | decide | omega)) T.b_Signature_kind_of .nil pass0 (pa_cons (pv 3) pa_nil)))))))))), ?_⟩
    intro ds h Q z
    try dsimp only [cxOf, Cx.nox, Cx.wish]
    obtain ⟨t, ts, k, n, rfl, good, ty, hd, hn, q⟩ := z
    cases t with
    | node c ch =>
      obtain ⟨t, tm, rfl, rfl, hl, hc⟩ := ty.inv
      rw [tdp] at hd hn
      rw [tD_node]
      have lp := good.parts t tm
      walk_at "dd"
      refine ite_f (decide_eq_false (by omega)) ?_
      walk_at "dd"
      refine d_cTy ?_
      walk_at "dd"
      refine v_isiT ?_
      walk_at "dd"
      refine ite_f rfl ?_
      walk_at "dd"
      refine ite_f (decide_eq_false (by simp only [List.length_cons]; omega)) ?_
      walk_at "dd"
      refine w_ixT (atI_eq (n := 0) rfl rfl) ?_
      walk_at "dd"
      refine d_cTy ?_
      walk_at "dd"
      refine v_isiS ?_
      walk_at "dd"
      refine ite_f rfl ?_
      walk_at "dd"
      refine ⟨[3] ++ ([4] ++ []), g_star (n := 1) (W := [3] ++ ([4] ++ [])) (by simp only [List.length_cons]; omega) ?_⟩
      rw [show ((D.str t.1 :: ch.map tD).take 1 ++ [D.lst ((D.str t.1 :: ch.map tD).drop 1)]) = [.str t.1, .lst (ch.map tD)] from rfl]
      walk_at "dd"
      refine ⟨_, ts, _, _, _, _, rfl, sigV_of, good.nd, ?_⟩
      walk_at "dd"
      rw [decide_eq_true (List.mem_map_of_mem tm)]
      refine ite_f rfl ?_
      walk_at "dd"
      refine ⟨_, ts, _, _, _, t, rfl, sigV_of, good.nd, tm, ?_⟩
      walk_at "dd"
      refine ite_f (by rw [List.length_map, List.length_map, hl]; simp) ?_
      walk_at "dd"
      refine i_zipTL ?_
      walk_at "dd"
      refine ⟨_, _, rfl, ?_⟩
      rw [prsD_map]
      refine for_D [6, 7] (t.2.2.zip ch) (fun p => .tup [.str p.1, tD p.2]) rfl (fun i ρ h' => ρ = [some (sigD e.C_Signature ts), some (.tup (.str t.1 :: ch.map tD)), some (.int n), some (.str t.1), some (.lst (ch.map tD)), some (.tup (strsD t.2.2)), none, none] ∧ h' = h) ⟨rfl, rfl⟩ (fun _ _ _ _ _ => trivial) ?_ ?_
      · rintro i pc ρ h' ei ⟨rfl, rfl⟩
        obtain ⟨e1, e2⟩ := List.getElem?_zip_eq_some.mp ei
        have h1 := tdps_le (List.mem_of_getElem? e2)
        walk_at "dd"
        refine ⟨pc.2, ts, pc.1, n + 1, by rw [show ((n : Int) + 1) = ((n + 1 : Nat) : Int) from by omega], good, hc i pc.1 pc.2 e1 e2, by omega, by omega, ?_⟩
        walk_at "dd"
        refine ite_f (by simp) ?_
        walk_at "dd"
        exact ⟨rfl, rfl⟩
      · rintro ρ h' ⟨rfl, rfl⟩
        walk_at "dd"
        refine ⟨_, ts, _, _, _, t, rfl, sigV_of, good.nd, tm, ?_⟩
        walk_at "dd"
        exact frz0 q
def tCheck (C : Addr) (d : Nat) : TD := fun ds h Q => ∃ (t : T) (ts : List Trip) (k : Str), ds = [sigD C ts, tD t] ∧ Good isNm ts ∧ Ty ts k t ∧ tdp t ≤ d ∧ d ≤ 60 ∧ tsz t ≤ 300 ∧ Q (.str k) h
theorem sc_check_tree : FnScope ["signature", "tree", "kind"] ["signature", "tree"] (defScope s_check_tree) :=
  ⟨rfl, rfl, rfl, by decide +kernel, rfl, by decide +kernel, by decide +kernel⟩
theorem ok_check_tree (T : Txt K mg e) (d : Nat) : FnG P w K mg base CX0 (d + 4) e.f_check_tree e.d_check_tree ["signature", "tree"] (spD (tCheck e.C_Signature d)) := by
  refine okD T.F_check_tree sc_check_tree (fun ds h Q z => by obtain ⟨t, ts, k, rfl, _⟩ := z; rfl) (fun cdv A outer s H E hG hr => ?_)
  refine ⟨_, (pss_cons (ps_set (i := 2) sc_check_tree.nd rfl (by first | exact Or.inl rfl | exact Or.inr rfl) (pe_callG (ok_kind_within T d) hG (hr.mono (by omega)) (by rfl) T.g_kind_within T.F_kind_within.kp T.b_kind_within .nil pass0 (pa_cons (pv 0) (pa_cons (pv 1) (pa_cons pe_int pa_nil)))))
  (pss_cons (ps_if (pt_cmpR op_gt (pe_callG (ok_size T d) hG (hr.mono (by omega)) (by rfl) T.g_size T.F_size.kp T.b_size .nil pass0 (pa_cons (pv 1) pa_nil)) (pe_glob (v := .int 300) (by rfl) T.g_MOST_NODES.choose_spec ⟨_, rfl⟩) (nomark _))
    (pss_one ps_never)
    pss_nil)
  (pss_one (ps_ret (pv 2))))), ?_⟩
  intro ds h Q z
  try dsimp only [cxOf, Cx.nox, Cx.wish]
  obtain ⟨t, ts, k, rfl, good, ty, hd, d60, hz, q⟩ := z
  walk_at "dd"
  refine ⟨t, ts, k, 1, rfl, good, ty, hd, by omega, ?_⟩
  walk_at "dd"
  refine ⟨t, rfl, hd, by omega, ?_⟩
  walk_at "dd"
  refine ite_f (decide_eq_false (by omega)) ?_
  walk_at "dd"
  exact frz0 q
end

end Toy

set_option Elab.async false
set_option linter.all false
set_option maxRecDepth 100000
set_option maxHeartbeats 4000000
namespace Toy
open PySem L2 GX PySem.Spec TL
/-! ### one step of a reading over data -/
local macro_rules | `(tactic| walk_at "d1") => `(tactic| with_reducible first
  | refine' d_seq ?_ | refine' d_asg ?_ | refine' d_retF ?_ | refine' d_retN ?_ | refine' d_drop ?_ | refine' d_next ?_ | refine' d_break ?_ | refine' d_cont ?_ | refine' d_ifS ?_ | refine' d_par ?_ | refine' d_pr ?_
  | refine' d_cInt ?_ | refine' d_cBl ?_ | refine' d_cStr ?_ | refine' d_cNon ?_ | refine' d_op ?_ | refine' d_un ?_ | refine' d_test ?_ | refine' d_B ?_ | refine' d_bl ?_
  | refine' d_and ?_ | refine' d_or ?_ | refine' d_not ?_ | refine' d_yes ?_ | refine' d_if ?_ | refine' d_andV ?_ | refine' d_orV ?_ | refine' d_notV ?_ | refine' d_chain ?_
  | refine' d_nil ?_ | refine' d_cons ?_ | refine' d_CB ?_ | refine' d_tup ?_ | refine' d_call ?_ | refine' d_fld ?_ | refine' d_sfld ?_ | refine' d_meth ?_ | refine' d_make ?_
  | refine' d_din ?_ | refine' d_dnin ?_ | refine' d_dget ?_ | refine' d_dput ?_ | refine' d_dsetd ?_ | refine' d_for ?_ | refine' d_lc ?_
  | refine' i_seq ?_ | refine' i_list ?_ | refine' i_tup ?_ | refine' i_str ?_ | refine' i_rng1 ?_ | refine' i_rng2 ?_ | refine' i_rng3 ?_ | refine' i_zip ?_ | refine' i_enum ?_
  | refine' d_sl ?_ | refine' d_part ?_ | refine' d_nopart ?_ | refine' d_M1 ?_ | refine' d_M0 ?_ | refine' x_part ?_ | refine' x_strE ?_ | refine' x_seqF ?_ | refine' x_seqT ?_ | refine' x_lstF ?_ | refine' x_isLf ?_
  | refine' ⟨_, g_name ?_⟩ | refine' g_name ?_ | refine' g_nil ?_ | refine' g_cons ?_ | refine' ⟨_, g_sub ?_⟩ | refine' x_same ?_ | refine' d_BML rfl ?_ | refine' d_BML0 rfl ?_)
local macro_rules | `(tactic| walk_at "dv") => `(tactic| ((with_reducible refine' d_var ?hv ?_); (case hv => rfl)))
/-- a cell's content -/
local macro_rules | `(tactic| walk_at "hn") => `(tactic| first
  | assumption | exact Ne.symm (by assumption)
  | ((refine' h_ne ?ha ?hb); (case hb => assumption); (case ha => walk_at "hc"))
  | ((refine' Ne.symm (h_ne ?ha ?hb)); (case hb => assumption); (case ha => walk_at "hc")))
local macro_rules | `(tactic| walk_at "hc") => `(tactic| first
  | assumption | exact seth_same
  | ((refine' (seth_ne ?hn).trans ?hh); (case hn => walk_at "hn"); (case hh => walk_at "hc")))
/-- a sequence seen -/
local macro_rules | `(tactic| walk_at "sq") => `(tactic| first
  | exact LsV.f | exact SqV.l | exact SqV.t | assumption | exact Or.inl (by assumption) | ((refine' LsV.c ?e0); (case e0 => walk_at "hc")) | ((refine' SqV.c ?e0); (case e0 => walk_at "hc")) | assumption)
local macro_rules | `(tactic| walk_at "lk") => `(tactic| first | (with_reducible exact lk0) | exact lkN | (refine lkS (by decide +kernel) ?_; walk_at "lk"))
local macro_rules | `(tactic| walk_at "iv") => `(tactic| first | exact InsV.f | assumption | ((refine' InsV.c ?e0); (case e0 => walk_at "hc")))
local macro_rules | `(tactic| walk_at "dk") => `(tactic| first | exact DkV.f | assumption | ((refine' DkV.c ?e0); (case e0 => walk_at "hc")))
local macro_rules | `(tactic| walk_at "cls") => `(tactic| first | assumption | exact Txt.c_Signature (by assumption) | exact Txt.a_Signature_entries (by assumption) | exact Txt.a_Signature_grouped (by assumption))
local macro_rules | `(tactic| walk_at "he") => `(tactic| first | rfl | assumption | exact atI_nat (by assumption) | exact atI_eq (by assumption) (by omega))
local macro_rules | `(tactic| walk_at "hl") => `(tactic| first | assumption | (simp only [List.length_map, List.length_append, List.length_cons, List.length_nil, List.length_replicate, strLen_append]; omega) | omega | decide)
local macro_rules | `(tactic| walk_at "dx") => `(tactic| first
  | ((with_reducible refine' d_aug ?hv ?_); (case hv => rfl))
  | ((with_reducible refine' ⟨_, g_tup ?hl ?_⟩); (case hl => rfl))
  | ((with_reducible refine' g_tup ?hl ?_); (case hl => rfl))
  | ((with_reducible refine' ⟨_, g_seqT ?hl ?_⟩); (case hl => rfl))
  | ((with_reducible refine' g_seqT ?hl ?_); (case hl => rfl))
  | ((with_reducible refine' ⟨_, g_seqL ?hx ?hl ?_⟩); (case hx => walk_at "sq"); (case hl => rfl))
  | ((with_reducible refine' g_seqL ?hx ?hl ?_); (case hx => walk_at "sq"); (case hl => rfl))
  | ((with_reducible refine' g_nameV ?hm ?_); (case hm => simp))
  | (with_reducible refine' g_consV ?_)
  | (with_reducible refine' g_nilV ?_)
  | ((with_reducible refine' x_seqC ?hs ?_); (case hs => walk_at "hc"))
  | ((with_reducible refine' x_lstC ?hs ?_); (case hs => walk_at "hc"))
  | ((with_reducible refine' x_isL ?hs ?_); (case hs => walk_at "hc"))
  | ((with_reducible refine' x_size ?hs ?_); (case hs => walk_at "hl"))
  | ((with_reducible refine' x_rg1 ?hs ?_); (case hs => constructor <;> first | omega | (simp only [List.length_map]; omega)))
  | ((with_reducible refine' x_rg2 ?hs ?_); (case hs => refine ⟨?_, ?_, ?_, ?_⟩ <;> first | omega | (simp only [List.length_map]; omega)))
  | (with_reducible refine' w_addI ?_)
  | ((with_reducible refine' w_mulI ?hc ?_); (case hc => first | assumption | exact cmul_small (by constructor <;> omega) (by constructor <;> omega)))
  | (with_reducible refine' v_I0i ?_)
  | (with_reducible refine' v_I0b ?_)
  | (with_reducible refine' v_Ui ?_)
  | (with_reducible refine' w_eqI ?_)
  | (with_reducible refine' w_eqS ?_)
  | (with_reducible refine' w_eqB ?_)
  | (with_reducible refine' w_neI ?_)
  | (with_reducible refine' w_neS ?_)
  | (with_reducible refine' w_neB ?_)
  | (with_reducible refine' v_isN ?_)
  | (with_reducible refine' v_notN ?_)
  | (with_reducible refine' w_inSign ?_)
  | ((with_reducible refine' w_inS ?hs ?_); (case hs => walk_at "sq"))
  | ((with_reducible refine' w_ninS ?hs ?_); (case hs => walk_at "sq"))
  | ((with_reducible refine' w_inI ?hs ?_); (case hs => walk_at "sq"))
  | ((with_reducible refine' w_ninI ?hs ?_); (case hs => walk_at "sq"))
  | ((with_reducible refine' w_addS ?hl ?_); (case hl => walk_at "hl"))
  | ((with_reducible refine' w_catT ?hl ?_); (case hl => walk_at "hl"))
  | ((with_reducible refine' w_slS ?hl ?_); (case hl => walk_at "hl"))
  | (with_reducible refine' w_slT ?_)
  | ((with_reducible refine' w_slL ?hs (.f ?_)); (case hs => walk_at "sq"))
  | ((with_reducible refine' w_lenS ?hl ?_); (case hl => walk_at "hl"))
  | ((with_reducible refine' w_len ?hs ?_); (case hs => walk_at "sq"))
  | ((with_reducible refine' w_lenD ?hs ?_); (case hs => walk_at "dk"))
  | ((with_reducible refine' v_tupOf ?hs ?_); (case hs => walk_at "sq"))
  | ((with_reducible refine' w_list ?hs (.f ?_)); (case hs => walk_at "sq"))
  | ((with_reducible refine' v_sum ?hs ?_); (case hs => walk_at "sq"))
  | ((with_reducible refine' v_all ?hs ?_); (case hs => walk_at "sq"))
  | ((with_reducible refine' v_any ?hs ?_); (case hs => walk_at "sq"))
  | (with_reducible refine' v_max2 ?_)
  | (with_reducible refine' v_min2 ?_)
  | (with_reducible refine' v_int1 ?_)
  | (with_reducible refine' v_int1b ?_)
  | (with_reducible refine' v_abs ?_)
  | ((with_reducible refine' w_ixT ?he ?_); (case he => walk_at "he"))
  | ((with_reducible refine' w_ixL ?hs ?he ?_); (case hs => walk_at "sq"); (case he => walk_at "he"))
  | ((with_reducible refine' v_app ?hs ?hl ?_); (case hs => walk_at "hc"); (case hl => walk_at "hl"))
  | ((with_reducible refine' v_insert ?hs ?hl ?h0 ?_); (case hs => walk_at "hc"); (case hl => walk_at "hl"); (case h0 => constructor <;> omega))
  | ((with_reducible refine' x_fldV ?hi ?hc ?hn ?hl ?_); (case hi => walk_at "iv"); (case hc => walk_at "cls"); (case hn => walk_at "cls"); (case hl => walk_at "lk"))
  | ((with_reducible refine' x_methV ?hi ?hl ?_); (case hi => walk_at "iv"); (case hl => walk_at "lk"))
  | ((with_reducible refine' x_sfldC ?hs ?hc ?hn ?hl ?_); (case hs => walk_at "hc"); (case hc => walk_at "cls"); (case hn => walk_at "cls"); (case hl => first | simp | (refine Nat.lt_of_le_of_lt putFD_len ?_; simp) | (refine Nat.lt_of_le_of_lt putFD_len (Nat.lt_of_le_of_lt (Nat.succ_le_succ putFD_len) ?_); simp)))
  | ((with_reducible refine' x_inS ?hs ?_); (case hs => walk_at "dk"))
  | ((with_reducible refine' x_inI ?hs ?_); (case hs => walk_at "dk"))
  | ((with_reducible refine' x_getS ?hs ?he ?_); (case hs => walk_at "dk"); (case he => assumption))
  | ((with_reducible refine' x_getI ?hs ?he ?_); (case hs => walk_at "dk"); (case he => assumption))
  | ((with_reducible refine' x_putS ?hs ?hl ?_); (case hs => walk_at "hc"); (case hl => walk_at "hl"))
  | ((with_reducible refine' x_putI ?hs ?hl ?_); (case hs => walk_at "hc"); (case hl => walk_at "hl"))
  | ((with_reducible refine' x_isK ?hs ?_); (case hs => walk_at "dk"))
  | ((with_reducible refine' x_isDV ?hs ?_); (case hs => walk_at "dk")))
local macro_rules | `(tactic| walk_at "dd") => `(tactic| repeat' (first | walk_at "d1" | walk_at "dv" | walk_at "dx"))

/-! ### keys of trees, compare -/
section
variable {P : Program} {w : World} {K : PySem.W.Frag} {mg : Str → Option Value} {base : Heap} {e : Env}
def tRank (C : Addr) : TD := fun ds h Q => ∃ (ts : List Trip) (t : Trip), ds = [sigD C ts, .str t.1] ∧ (ts.map (·.1)).Nodup ∧ t ∈ ts ∧ Q (.int (rkT ts t.1 : Int)) h
theorem sc_Signature_rank : FnScope ["self", "constructor"] ["self", "constructor"] (defScope s_Signature_rank) :=
  ⟨rfl, rfl, rfl, by decide +kernel, rfl, by decide +kernel, by decide +kernel⟩
theorem ok_Signature_rank (T : Txt K mg e) : FnG P w K mg base CX0 1 e.f_Signature_rank e.d_Signature_rank ["self", "constructor"] (spD (tRank e.C_Signature)) := by
  refine okD T.F_Signature_rank sc_Signature_rank (fun ds h Q z => by obtain ⟨ts, t, rfl, _⟩ := z; rfl) (fun cdv A outer s H E hG hr => ?_)
  refine ⟨_, (pss_one (ps_ret (pe_bmK (K := K) rfl PySem.F.plainAttrs_list PySem.F.slot_list_index PySem.F.type_list_index (mt_indexK (K := K) rfl) (pe_dget (hu_of hr) (pe_fldK (K := K) rfl (pv 0) rfl) (pe_ix (ix_seqK (K := K) rfl) (pe_dget (hu_of hr) (pe_fldK (K := K) rfl (pv 0) rfl) (pv 1) (fun _ _ => rfl)) pe_int (fun _ _ => rfl)) (fun _ _ => rfl)) (pa_cons (pv 1) pa_nil)))), ?_⟩
  intro ds h Q z
  try dsimp only [cxOf, Cx.nox, Cx.wish]
  obtain ⟨ts, t, rfl, nd, tm, q⟩ := z
  have sv := sigV_of (h := h) (C := e.C_Signature) (ts := ts)
  have h1 := sv.i
  have h2 := sv.en
  have h3 := entK_at nd tm
  have h4 := sv.gr
  have km : t.2.1 ∈ kindsOf ts := (mem_kindsOf _ _).mpr ⟨t, tm, rfl⟩
  have h5 := grpL_at (conL ts) km
  have cm := mem_consOf tm
  have rk : rkT ts t.1 = (consOf ts t.2.1).idxOf t.1 := by unfold rkT; rw [kindOfC_at nd tm]
  walk_at "dd"
  refine ⟨⟨_, .f⟩, ?_⟩
  walk_at "dd"
  refine v_indexS .f (n := (consOf ts t.2.1).idxOf t.1) ?_ (fun m hm em => ?_) ?_
  · rw [List.getElem?_eq_getElem (List.idxOf_lt_length_iff.mpr cm), List.getElem_idxOf]
  · have hm2 := (List.getElem?_eq_some_iff.mp em)
    have := List.not_of_lt_findIdx hm
    rw [hm2.2, beq_self_eq_true] at this
    cases this
  · rw [← rk]
    walk_at "dd"
    exact frz0 q
def tTreeKey (C : Addr) (d : Nat) : TD := fun ds h Q => ∃ (t : T) (ts : List Trip) (k : Str), ds = [sigD C ts, tD t] ∧ (ts.map (·.1)).Nodup ∧ Ty ts k t ∧ tdp t ≤ d ∧ tsz t ≤ 1000 ∧ Q (kyD ts t) h
theorem sc_tree_key : FnScope ["signature", "tree", "keys", "child", "key"] ["signature", "tree"] (defScope s_tree_key) :=
  ⟨rfl, rfl, rfl, by decide +kernel, rfl, by decide +kernel, by decide +kernel⟩
theorem ok_tree_key (T : Txt K mg e) (d : Nat) : FnG P w K mg base CX0 (d + 2) e.f_tree_key e.d_tree_key ["signature", "tree"] (spD (tTreeKey e.C_Signature d)) := by
  induction d with
  | zero =>
    refine okG T.F_tree_key sc_tree_key (fun vs H Q E h => ?_) (fun cdv A outer s H vs Q E hG hr h => ?_)
    · obtain ⟨ds, h, Q2, a, r, ⟨t, ts, k, rfl, _, _, hd, _⟩, po⟩ := h
      exact absurd hd (Nat.not_le.mpr (tdp_pos t))
    · obtain ⟨ds, h, Q2, a, r, ⟨t, ts, k, rfl, _, _, hd, _⟩, po⟩ := h
      exact absurd hd (Nat.not_le.mpr (tdp_pos t))
  | succ d ih =>
    refine okD T.F_tree_key sc_tree_key (fun ds h Q z => by obtain ⟨t, ts, k, rfl, _⟩ := z; rfl) (fun cdv A outer s H E hG hr => ?_)
    refine ⟨_, (pss_cons (ps_setLc (i := 2) (own := [("child", 3)]) (g := (gName 3)) (tt := tYes) rfl sc_tree_key.nd rfl rfl (sw_true rfl rfl rfl (by decide +kernel)) (pi_seqK (K := K) rfl (pe_slice (sl_G (K := K) rfl) (pv 1) (po_some pe_int) po_none)) (blkOk_by (own := [("child", 3)]) (N := ["signature", "tree", "keys", "child", "key"]) (sc := defScope (top 16)) (by decide +kernel)) (fun _ _ _ _ _ => (pg_name (i := 3) sc_tree_key.nd rfl (by first | exact Or.inl rfl | exact Or.inr rfl))) (fun _ _ _ _ _ => pts_nil) (fun _ _ _ _ _ => (pe_callG ih hG hr (by rfl) T.g_tree_key T.F_tree_key.kp T.b_tree_key .nil pass0 (pa_cons (pv 0) (pa_cons (pv 3) pa_nil)))) (by intro _; rfl))
  (pss_one (ps_ret (pe_tup (pa_cons (pe_op (op_addG (K := K) rfl) pe_int (pe_callB (cr_sumK (K := K) rfl rfl) (by rfl) T.n_sum (by decide +kernel) (pa_cons (pe_lc (own := [("key", 4)]) (g := (gName 4)) (tt := tYes) rfl sc_tree_key.nd (pi_seqK (K := K) rfl (pv 2)) (blkOk_by (own := [("key", 4)]) (N := ["signature", "tree", "keys", "child", "key"]) (sc := defScope (top 16)) (by decide +kernel)) (fun _ _ _ _ _ => (pg_name (i := 4) sc_tree_key.nd rfl (by first | exact Or.inl rfl | exact Or.inr rfl))) (fun _ _ _ _ _ => pts_nil) (fun _ _ _ _ _ => (pe_ix (ix_seqK (K := K) rfl) (pv 4) pe_int (fun _ _ => rfl)))) pa_nil))) (pa_cons (pe_methG (pv 0) T.c_Signature T.m_Signature_rank (ok_Signature_rank T) hG (hr.mono (by first | decide | omega)) T.b_Signature_rank .nil pass0 (pa_cons (pe_ix (ix_seqK (K := K) rfl) (pv 1) pe_int (fun _ _ => rfl)) pa_nil)) (pa_cons (pv 2) pa_nil))))))), ?_⟩
    intro ds h Q z
    try dsimp only [cxOf, Cx.nox, Cx.wish]
    obtain ⟨t, ts, k, rfl, nd, ty, hd, hz, q⟩ := z
    cases t with
    | node c ch =>
      obtain ⟨t, tm, rfl, rfl, hl, hc⟩ := ty.inv
      rw [tdp] at hd
      rw [tsz] at hz
      rw [tD_node]
      rw [kyD_node] at q
      have few := len_tszs ch
      walk_at "dd"
      rw [show (1 : Int) = ((1 : Nat) : Int) from rfl, dcut_drop]
      show dLcGo _ _ _ _ _ _ (ch.map tD) _ _
      refine lc_map ch tD (kyD ts) rfl (by omega) .t ?_ (.f ?_)
      · intro p acc j u np ej
        have um := List.mem_of_getElem? ej
        have h1 := tdps_le um
        have h2 := tsz_mem um
        have hj := (List.getElem?_eq_some_iff.mp ej).1
        have ep := List.getElem?_eq_getElem (show j < t.2.2.length by omega)
        walk_at "dd"
        exact ⟨u, ts, _, rfl, nd, hc j _ u ep ej, by omega, by omega, rfl, rfl⟩
      · walk_at "dd"
        refine lc_map ch (kyD ts) (fun u => natD (tsz u)) rfl (by omega) .t ?_ (.f ?_)
        · intro p acc j u np ej
          cases u with
          | node c2 ch2 =>
            rw [kyD_node, tsz]
            walk_at "dd"
            rfl
        · walk_at "dd"
          refine v_sum (ns := ch.map fun t => ((tsz t : Nat) : Int)) (by rw [List.map_map]; exact .f) ?_
          have ev : (ch.map fun t => ((tsz t : Nat) : Int)).sum = ((tszs ch : Nat) : Int) := by
            rw [tszs_sum, ← vints_sum, List.map_map]
            rfl
          walk_at "dd"
          rw [ev]
          refine w_ixT (atI_eq (n := 0) rfl rfl) ?_
          walk_at "dd"
          refine ⟨ts, t, rfl, nd, tm, ?_⟩
          walk_at "dd"
          rw [show ((1 : Nat) : Int) + ((tszs ch : Nat) : Int) = ((1 + tszs ch : Nat) : Int) from by omega]
          exact frz0 q
def tCompare (C : Addr) (d : Nat) : TD := fun ds h Q => ∃ (a b : T) (ts : List Trip) (k : Str), ds = [sigD C ts, tD a, tD b] ∧ Good isNm ts ∧ Ty ts k a ∧ Ty ts k b ∧ tdp a ≤ d ∧ tdp b ≤ d ∧ d ≤ 30 ∧ tsz a ≤ 300 ∧ tsz b ≤ 300 ∧ Q (.int (wayT ts a b)) h
theorem sc_compare : FnScope ["signature", "one", "other", "first", "second"] ["signature", "one", "other"] (defScope s_compare) :=
  ⟨rfl, rfl, rfl, by decide +kernel, rfl, by decide +kernel, by decide +kernel⟩
theorem ok_compare (T : Txt K mg e) (d : Nat) : FnG P w K mg base CX0 (d + 5) e.f_compare e.d_compare ["signature", "one", "other"] (spD (tCompare e.C_Signature d)) := by
  refine okD T.F_compare sc_compare (fun ds h Q z => by obtain ⟨a, b, ts, k, rfl, _⟩ := z; rfl) (fun cdv A outer s H E hG hr => ?_)
  refine ⟨_, (pss_cons (ps_if (pt_cmpR (op_neG (K := K) rfl hr.units) (pe_callG (ok_check_tree T d) hG (hr.mono (by omega)) (by rfl) T.g_check_tree T.F_check_tree.kp T.b_check_tree .nil pass0 (pa_cons (pv 0) (pa_cons (pv 1) pa_nil))) (pe_callG (ok_check_tree T d) hG (hr.mono (by omega)) (by rfl) T.g_check_tree T.F_check_tree.kp T.b_check_tree .nil pass0 (pa_cons (pv 0) (pa_cons (pv 2) pa_nil))) (nomark _))
    (pss_one ps_never)
    pss_nil)
  (pss_cons (ps_par (i := 3) (j := 4) (by rfl) sc_compare.nd rfl rfl (by decide) rfl rfl (pa_cons (pe_callG (ok_tree_key T d) hG (hr.mono (by omega)) (by rfl) T.g_tree_key T.F_tree_key.kp T.b_tree_key .nil pass0 (pa_cons (pv 0) (pa_cons (pv 1) pa_nil))) (pa_cons (pe_callG (ok_tree_key T d) hG (hr.mono (by omega)) (by rfl) T.g_tree_key T.F_tree_key.kp T.b_tree_key .nil pass0 (pa_cons (pv 0) (pa_cons (pv 2) pa_nil))) pa_nil)) (by rfl))
  (pss_one (ps_ret (pe_op op_sub (pe_callTy call_int1 (by rfl) T.n_int (by decide +kernel) (pa_cons (pe_cmpR (op_gtDK (K := K) rfl (units65 hr)) (pv 3) (pv 4) (nomark _)) pa_nil)) (pe_callTy call_int1 (by rfl) T.n_int (by decide +kernel) (pa_cons (pe_cmpR (op_ltDK (K := K) rfl (units65 hr)) (pv 3) (pv 4) (nomark _)) pa_nil))))))), ?_⟩
  intro ds h Q z
  try dsimp only [cxOf, Cx.nox, Cx.wish]
  obtain ⟨a, b, ts, k, rfl, good, ta, tb, da, db, d30, za, zb, q⟩ := z
  obtain ⟨o1, p1⟩ := kyD_ok ts d a da
  obtain ⟨o2, p2⟩ := kyD_ok ts d b db
  walk_at "dd"
  refine ⟨a, ts, k, rfl, good, ta, da, by omega, za, ?_⟩
  walk_at "dd"
  refine ⟨b, ts, k, rfl, good, tb, db, by omega, zb, ?_⟩
  walk_at "dd"
  refine ite_f (by simp) ?_
  walk_at "dd"
  refine ⟨a, ts, k, rfl, good.nd, ta, da, by omega, ?_⟩
  walk_at "dd"
  refine ⟨b, ts, k, rfl, good.nd, tb, db, by omega, ?_⟩
  walk_at "dd"
  refine v_gtD o1 o2 (kyP_alike ts a b) (kyP_some ts a) (by show (kyP ts a).depth ≤ 64; omega) ?_
  walk_at "dd"
  refine v_ltD o1 o2 (kyP_alike ts a b) (kyP_some ts a) (by show (kyP ts a).depth ≤ 64; omega) ?_
  walk_at "dd"
  exact frz0 q
end

end Toy

set_option Elab.async false
set_option linter.all false
set_option maxRecDepth 100000
set_option maxHeartbeats 4000000
namespace Toy
open PySem L2 GX PySem.Spec TL
/-! ### one step of a reading over data -/
local macro_rules | `(tactic| walk_at "d1") => `(tactic| with_reducible first
  | refine' d_seq ?_ | refine' d_asg ?_ | refine' d_retF ?_ | refine' d_retN ?_ | refine' d_drop ?_ | refine' d_next ?_ | refine' d_break ?_ | refine' d_cont ?_ | refine' d_ifS ?_ | refine' d_par ?_ | refine' d_pr ?_
  | refine' d_cInt ?_ | refine' d_cBl ?_ | refine' d_cStr ?_ | refine' d_cNon ?_ | refine' d_op ?_ | refine' d_un ?_ | refine' d_test ?_ | refine' d_B ?_ | refine' d_bl ?_
  | refine' d_and ?_ | refine' d_or ?_ | refine' d_not ?_ | refine' d_yes ?_ | refine' d_if ?_ | refine' d_andV ?_ | refine' d_orV ?_ | refine' d_notV ?_ | refine' d_chain ?_
  | refine' d_nil ?_ | refine' d_cons ?_ | refine' d_CB ?_ | refine' d_tup ?_ | refine' d_call ?_ | refine' d_fld ?_ | refine' d_sfld ?_ | refine' d_meth ?_ | refine' d_make ?_
  | refine' d_din ?_ | refine' d_dnin ?_ | refine' d_dget ?_ | refine' d_dput ?_ | refine' d_dsetd ?_ | refine' d_for ?_ | refine' d_lc ?_
  | refine' i_seq ?_ | refine' i_list ?_ | refine' i_tup ?_ | refine' i_str ?_ | refine' i_rng1 ?_ | refine' i_rng2 ?_ | refine' i_rng3 ?_ | refine' i_zip ?_ | refine' i_enum ?_
  | refine' d_sl ?_ | refine' d_part ?_ | refine' d_nopart ?_ | refine' d_M1 ?_ | refine' d_M0 ?_ | refine' x_part ?_ | refine' x_strE ?_ | refine' x_seqF ?_ | refine' x_seqT ?_ | refine' x_lstF ?_ | refine' x_isLf ?_
  | refine' ⟨_, g_name ?_⟩ | refine' g_name ?_ | refine' g_nil ?_ | refine' g_cons ?_ | refine' ⟨_, g_sub ?_⟩ | refine' x_same ?_ | refine' d_BML rfl ?_ | refine' d_BML0 rfl ?_)
local macro_rules | `(tactic| walk_at "dv") => `(tactic| ((with_reducible refine' d_var ?hv ?_); (case hv => rfl)))
/-- a cell's content -/
local macro_rules | `(tactic| walk_at "hn") => `(tactic| first
  | assumption | exact Ne.symm (by assumption)
  | ((refine' h_ne ?ha ?hb); (case hb => assumption); (case ha => walk_at "hc"))
  | ((refine' Ne.symm (h_ne ?ha ?hb)); (case hb => assumption); (case ha => walk_at "hc")))
local macro_rules | `(tactic| walk_at "hc") => `(tactic| first
  | assumption | exact seth_same
  | ((refine' (seth_ne ?hn).trans ?hh); (case hn => walk_at "hn"); (case hh => walk_at "hc")))
/-- a sequence seen -/
local macro_rules | `(tactic| walk_at "sq") => `(tactic| first
  | exact LsV.f | exact SqV.l | exact SqV.t | assumption | exact Or.inl (by assumption) | ((refine' LsV.c ?e0); (case e0 => walk_at "hc")) | ((refine' SqV.c ?e0); (case e0 => walk_at "hc")) | assumption)
local macro_rules | `(tactic| walk_at "lk") => `(tactic| first | (with_reducible exact lk0) | exact lkN | (refine lkS (by decide +kernel) ?_; walk_at "lk"))
local macro_rules | `(tactic| walk_at "iv") => `(tactic| first | exact InsV.f | assumption | ((refine' InsV.c ?e0); (case e0 => walk_at "hc")))
local macro_rules | `(tactic| walk_at "dk") => `(tactic| first | exact DkV.f | assumption | ((refine' DkV.c ?e0); (case e0 => walk_at "hc")))
local macro_rules | `(tactic| walk_at "cls") => `(tactic| first | assumption | exact Txt.c_Signature (by assumption) | exact Txt.a_Signature_entries (by assumption) | exact Txt.a_Signature_grouped (by assumption))
local macro_rules | `(tactic| walk_at "he") => `(tactic| first | rfl | assumption | exact atI_nat (by assumption) | exact atI_eq (by assumption) (by omega))
local macro_rules | `(tactic| walk_at "hl") => `(tactic| first | assumption | (simp only [List.length_map, List.length_append, List.length_cons, List.length_nil, List.length_replicate, strLen_append]; omega) | omega | decide)
local macro_rules | `(tactic| walk_at "dx") => `(tactic| first
  | ((with_reducible refine' d_aug ?hv ?_); (case hv => rfl))
  | ((with_reducible refine' ⟨_, g_tup ?hl ?_⟩); (case hl => rfl))
  | ((with_reducible refine' g_tup ?hl ?_); (case hl => rfl))
  | ((with_reducible refine' ⟨_, g_seqT ?hl ?_⟩); (case hl => rfl))
  | ((with_reducible refine' g_seqT ?hl ?_); (case hl => rfl))
  | ((with_reducible refine' ⟨_, g_seqL ?hx ?hl ?_⟩); (case hx => walk_at "sq"); (case hl => rfl))
  | ((with_reducible refine' g_seqL ?hx ?hl ?_); (case hx => walk_at "sq"); (case hl => rfl))
  | ((with_reducible refine' g_nameV ?hm ?_); (case hm => simp))
  | (with_reducible refine' g_consV ?_)
  | (with_reducible refine' g_nilV ?_)
  | ((with_reducible refine' x_seqC ?hs ?_); (case hs => walk_at "hc"))
  | ((with_reducible refine' x_lstC ?hs ?_); (case hs => walk_at "hc"))
  | ((with_reducible refine' x_isL ?hs ?_); (case hs => walk_at "hc"))
  | ((with_reducible refine' x_size ?hs ?_); (case hs => walk_at "hl"))
  | ((with_reducible refine' x_rg1 ?hs ?_); (case hs => constructor <;> first | omega | (simp only [List.length_map]; omega)))
  | ((with_reducible refine' x_rg2 ?hs ?_); (case hs => refine ⟨?_, ?_, ?_, ?_⟩ <;> first | omega | (simp only [List.length_map]; omega)))
  | (with_reducible refine' w_addI ?_)
  | ((with_reducible refine' w_mulI ?hc ?_); (case hc => first | assumption | exact cmul_small (by constructor <;> omega) (by constructor <;> omega)))
  | (with_reducible refine' v_I0i ?_)
  | (with_reducible refine' v_I0b ?_)
  | (with_reducible refine' v_Ui ?_)
  | (with_reducible refine' w_eqI ?_)
  | (with_reducible refine' w_eqS ?_)
  | (with_reducible refine' w_eqB ?_)
  | (with_reducible refine' w_neI ?_)
  | (with_reducible refine' w_neS ?_)
  | (with_reducible refine' w_neB ?_)
  | (with_reducible refine' v_isN ?_)
  | (with_reducible refine' v_notN ?_)
  | (with_reducible refine' w_inSign ?_)
  | ((with_reducible refine' w_inS ?hs ?_); (case hs => walk_at "sq"))
  | ((with_reducible refine' w_ninS ?hs ?_); (case hs => walk_at "sq"))
  | ((with_reducible refine' w_inI ?hs ?_); (case hs => walk_at "sq"))
  | ((with_reducible refine' w_ninI ?hs ?_); (case hs => walk_at "sq"))
  | ((with_reducible refine' w_addS ?hl ?_); (case hl => walk_at "hl"))
  | ((with_reducible refine' w_catT ?hl ?_); (case hl => walk_at "hl"))
  | ((with_reducible refine' w_slS ?hl ?_); (case hl => walk_at "hl"))
  | (with_reducible refine' w_slT ?_)
  | ((with_reducible refine' w_slL ?hs (.f ?_)); (case hs => walk_at "sq"))
  | ((with_reducible refine' w_lenS ?hl ?_); (case hl => walk_at "hl"))
  | ((with_reducible refine' w_len ?hs ?_); (case hs => walk_at "sq"))
  | ((with_reducible refine' w_lenD ?hs ?_); (case hs => walk_at "dk"))
  | ((with_reducible refine' v_tupOf ?hs ?_); (case hs => walk_at "sq"))
  | ((with_reducible refine' w_list ?hs (.f ?_)); (case hs => walk_at "sq"))
  | ((with_reducible refine' v_sum ?hs ?_); (case hs => walk_at "sq"))
  | ((with_reducible refine' v_all ?hs ?_); (case hs => walk_at "sq"))
  | ((with_reducible refine' v_any ?hs ?_); (case hs => walk_at "sq"))
  | (with_reducible refine' v_max2 ?_)
  | (with_reducible refine' v_min2 ?_)
  | (with_reducible refine' v_int1 ?_)
  | (with_reducible refine' v_int1b ?_)
  | (with_reducible refine' v_abs ?_)
  | ((with_reducible refine' w_ixT ?he ?_); (case he => walk_at "he"))
  | ((with_reducible refine' w_ixL ?hs ?he ?_); (case hs => walk_at "sq"); (case he => walk_at "he"))
  | ((with_reducible refine' v_app ?hs ?hl ?_); (case hs => walk_at "hc"); (case hl => walk_at "hl"))
  | ((with_reducible refine' v_insert ?hs ?hl ?h0 ?_); (case hs => walk_at "hc"); (case hl => walk_at "hl"); (case h0 => constructor <;> omega))
  | ((with_reducible refine' x_fldV ?hi ?hc ?hn ?hl ?_); (case hi => walk_at "iv"); (case hc => walk_at "cls"); (case hn => walk_at "cls"); (case hl => walk_at "lk"))
  | ((with_reducible refine' x_methV ?hi ?hl ?_); (case hi => walk_at "iv"); (case hl => walk_at "lk"))
  | ((with_reducible refine' x_sfldC ?hs ?hc ?hn ?hl ?_); (case hs => walk_at "hc"); (case hc => walk_at "cls"); (case hn => walk_at "cls"); (case hl => first | simp | (refine Nat.lt_of_le_of_lt putFD_len ?_; simp) | (refine Nat.lt_of_le_of_lt putFD_len (Nat.lt_of_le_of_lt (Nat.succ_le_succ putFD_len) ?_); simp)))
  | ((with_reducible refine' x_inS ?hs ?_); (case hs => walk_at "dk"))
  | ((with_reducible refine' x_inI ?hs ?_); (case hs => walk_at "dk"))
  | ((with_reducible refine' x_getS ?hs ?he ?_); (case hs => walk_at "dk"); (case he => assumption))
  | ((with_reducible refine' x_getI ?hs ?he ?_); (case hs => walk_at "dk"); (case he => assumption))
  | ((with_reducible refine' x_putS ?hs ?hl ?_); (case hs => walk_at "hc"); (case hl => walk_at "hl"))
  | ((with_reducible refine' x_putI ?hs ?hl ?_); (case hs => walk_at "hc"); (case hl => walk_at "hl"))
  | ((with_reducible refine' x_isK ?hs ?_); (case hs => walk_at "dk"))
  | ((with_reducible refine' x_isDV ?hs ?_); (case hs => walk_at "dk")))
local macro_rules | `(tactic| walk_at "dd") => `(tactic| repeat' (first | walk_at "d1" | walk_at "dv" | walk_at "dx"))

/-! ### the law's own kinds and trees -/
section
variable {P : Program} {w : World} {K : PySem.W.Frag} {mg : Str → Option Value} {base : Heap} {e : Env}
def tLKinds : TD := fun ds h Q => ∃ ts : List Trip, ds = [.lst (ts.map trD)] ∧ ts.length ≤ 1000 ∧ Q (.lst (strsD (kindsOf ts))) h
theorem sc__law_kinds : FnScope ["_law_triples", "_law_found", "_law_constructor", "_law_kind", "_law_parts"] ["_law_triples"] (defScope s__law_kinds) :=
  ⟨rfl, rfl, rfl, by decide +kernel, rfl, by decide +kernel, by decide +kernel⟩
theorem ok__law_kinds (T : Txt K mg e) : FnG P w K mg base CX0 1 e.f__law_kinds e.d__law_kinds ["_law_triples"] (spD (tLKinds)) := by
  refine okD T.F__law_kinds sc__law_kinds (fun ds h Q z => by obtain ⟨ts, rfl, _⟩ := z; rfl) (fun cdv A outer s H E hG hr => ?_)
  refine ⟨_, (pss_cons (ps_set (i := 1) sc__law_kinds.nd rfl (by first | exact Or.inl rfl | exact Or.inr rfl) (pe_lst pa_nil))
  (pss_cons (ps_for PassesOwn.never rfl (pi_seqK (K := K) rfl (pv 0)) (pg_seqK (K := K) rfl rfl (pgs_cons (pg_name (i := 2) sc__law_kinds.nd rfl (by first | exact Or.inl rfl | exact Or.inr rfl)) (pgs_cons (pg_name (i := 3) sc__law_kinds.nd rfl (by first | exact Or.inl rfl | exact Or.inr rfl)) (pgs_cons (pg_name (i := 4) sc__law_kinds.nd rfl (by first | exact Or.inl rfl | exact Or.inr rfl)) pgs_nil))))
    (pss_one (ps_if (pt_cmpR (op_ninG (K := K) rfl (units65 hr)) (pv 3) (pv 1) (by rfl))
        (pss_one (ps_expr (pe_bmK (K := K) rfl PySem.F.plainAttrs_list PySem.F.slot_list_append PySem.F.type_list_append mt_app (pv 1) (pa_cons (pv 3) pa_nil))))
        pss_nil)))
  (pss_one (ps_ret (pv 1))))), ?_⟩
  intro ds h Q z
  try dsimp only [cxOf, Cx.nox, Cx.wish]
  obtain ⟨ts, rfl, few, k⟩ := z
  walk_at "dd"
  refine d_lstC (d_nil ⟨by decide, fun f nf => ?_⟩)
  walk_at "dd"
  refine for_P [2, 3, 4] ts trD rfl (fun pre ρ h' => ρ = [some (.lst (ts.map trD)), some (.ref f), none, none, none] ∧ h' = seth h f (.lst (strsD (kindsOf pre)))) ⟨rfl, rfl⟩ (fun _ _ _ _ => trivial) ?_ ?_
  · rintro pre t post ρ h' el ⟨rfl, rfl⟩
    have lpre : pre.length ≤ 1000 := by
      have := congrArg List.length el
      rw [List.length_append, List.length_cons] at this
      omega
    have lk : (strsD (kindsOf pre)).length ≤ 1000 := by
      rw [List.length_map]
      exact Nat.le_trans (kinds_le pre) lpre
    walk_at "dd"
    refine ite_b (fun hc => ?_) (fun hc => ?_)
    · walk_at "dd"
      refine ⟨rfl, ?_⟩
      rw [seth_seth, kindsOf_app, addKind, if_neg (by simpa using hc)]
      show _ = seth h f (.lst ((kindsOf pre ++ [t.2.1]).map D.str))
      rw [List.map_append]
      rfl
    · walk_at "dd"
      refine ⟨rfl, ?_⟩
      rw [kindsOf_app, addKind, if_pos (by simpa using hc)]
  · rintro ρ h' ⟨rfl, rfl⟩
    refine dS_frz (i := 1) (x := .ref f) rfl (.lst seth_same .id) ?_
    rw [delh_seth nf]
    walk_at "dd"
    exact frz0 k
def tOfKind : TD := fun ds h Q => ∃ (ts : List Trip) (k : Str), ds = [.lst (ts.map trD), .str k] ∧ ts.length ≤ 1000 ∧ Q (.lst ((ts.filter fun t => decide (t.2.1 = k)).map trD)) h
theorem sc__law_of_kind : FnScope ["_law_triples", "_law_kind", "_law_triple"] ["_law_triples", "_law_kind"] (defScope s__law_of_kind) :=
  ⟨rfl, rfl, rfl, by decide +kernel, rfl, by decide +kernel, by decide +kernel⟩
theorem ok__law_of_kind (T : Txt K mg e) : FnG P w K mg base CX0 1 e.f__law_of_kind e.d__law_of_kind ["_law_triples", "_law_kind"] (spD (tOfKind)) := by
  refine okD T.F__law_of_kind sc__law_of_kind (fun ds h Q z => by obtain ⟨ts, k, rfl, _⟩ := z; rfl) (fun cdv A outer s H E hG hr => ?_)
  refine ⟨_, (pss_one (ps_ret (pe_lc (own := [("_law_triple", 2)]) (g := (gName 2)) rfl sc__law_of_kind.nd (pi_seqK (K := K) rfl (pv 0)) (blkOk_by (own := [("_law_triple", 2)]) (N := ["_law_triples", "_law_kind", "_law_triple"]) (sc := defScope (top 36)) (by decide +kernel)) (fun _ _ _ _ _ => (pg_name (i := 2) sc__law_of_kind.nd rfl (by first | exact Or.inl rfl | exact Or.inr rfl))) (fun _ _ _ _ _ => pts_one (pt_cmpR (op_eqG (K := K) rfl hr.units) (pe_ix (ix_seqK (K := K) rfl) (pv 2) pe_int (fun _ _ => rfl)) (pv 1) (nomark _))) (fun _ _ _ _ _ => (pv 2))))), ?_⟩
  intro ds h Q z
  try dsimp only [cxOf, Cx.nox, Cx.wish]
  obtain ⟨ts, kk, rfl, few, k⟩ := z
  walk_at "dd"
  refine lc_flt ts trD (fun t => decide (t.2.1 = kk)) trD rfl (by omega) .t ?_ (.f ?_)
  · intro p acc i t np et
    walk_at "dd"
    refine ⟨rfl, fun _ => ?_⟩
    walk_at "dd"
    rfl
  · exact frz0 k
def tLKindOf : TD := fun ds h Q => ∃ (ts : List Trip) (t : Trip), ds = [.lst (ts.map trD), .str t.1] ∧ (ts.map (·.1)).Nodup ∧ t ∈ ts ∧ Q (.str t.2.1) h
theorem sc__law_kind_of : FnScope ["_law_triples", "_law_constructor", "_law_name", "_law_kind", "_law_parts"] ["_law_triples", "_law_constructor"] (defScope s__law_kind_of) :=
  ⟨rfl, rfl, rfl, by decide +kernel, rfl, by decide +kernel, by decide +kernel⟩
theorem ok__law_kind_of (T : Txt K mg e) : FnG P w K mg base CX0 1 e.f__law_kind_of e.d__law_kind_of ["_law_triples", "_law_constructor"] (spD (tLKindOf)) := by
  refine okD T.F__law_kind_of sc__law_kind_of (fun ds h Q z => by obtain ⟨ts, t, rfl, _⟩ := z; rfl) (fun cdv A outer s H E hG hr => ?_)
  refine ⟨_, (pss_cons (ps_for PassesOwn.never rfl (pi_seqK (K := K) rfl (pv 0)) (pg_seqK (K := K) rfl rfl (pgs_cons (pg_name (i := 2) sc__law_kind_of.nd rfl (by first | exact Or.inl rfl | exact Or.inr rfl)) (pgs_cons (pg_name (i := 3) sc__law_kind_of.nd rfl (by first | exact Or.inl rfl | exact Or.inr rfl)) (pgs_cons (pg_name (i := 4) sc__law_kind_of.nd rfl (by first | exact Or.inl rfl | exact Or.inr rfl)) pgs_nil))))
    (pss_one (ps_if (pt_cmpR (op_eqG (K := K) rfl hr.units) (pv 2) (pv 1) (nomark _))
        (pss_one (ps_ret (pv 3)))
        pss_nil)))
  (pss_one (ps_ret pe_str))), ?_⟩
  intro ds h Q z
  try dsimp only [cxOf, Cx.nox, Cx.wish]
  obtain ⟨ts, t, rfl, nd, tm, k⟩ := z
  walk_at "dd"
  refine for_P [2, 3, 4] ts trD rfl (fun pre ρ h' => ρ = [some (.lst (ts.map trD)), some (.str t.1), none, none, none] ∧ h' = h ∧ t ∉ pre) ⟨rfl, rfl, List.not_mem_nil⟩ (fun _ _ _ _ => trivial) ?_ ?_
  · rintro pre u post ρ h' el ⟨rfl, rfl, np⟩
    have um : u ∈ ts := by rw [el]; exact List.mem_append_right _ (List.mem_cons_self ..)
    walk_at "dd"
    refine ite_b (fun hc => ?_) (fun hc => ?_)
    · walk_at "dd"
      rw [nd_trip nd um tm (of_decide_eq_true hc)]
      exact frz0 k
    · walk_at "dd"
      refine ⟨rfl, rfl, fun h => ?_⟩
      rcases List.mem_append.mp h with q | q
      · exact np q
      · rw [List.mem_singleton.mp q] at hc
        exact absurd rfl (of_decide_eq_false hc)
  · rintro ρ h' ⟨rfl, rfl, np⟩
    exact absurd tm np
end

end Toy

set_option Elab.async false
set_option linter.all false
set_option maxRecDepth 100000
set_option maxHeartbeats 4000000
namespace Toy
open PySem L2 GX PySem.Spec TL
/-! ### one step of a reading over data -/
local macro_rules | `(tactic| walk_at "d1") => `(tactic| with_reducible first
  | refine' d_seq ?_ | refine' d_asg ?_ | refine' d_retF ?_ | refine' d_retN ?_ | refine' d_drop ?_ | refine' d_next ?_ | refine' d_break ?_ | refine' d_cont ?_ | refine' d_ifS ?_ | refine' d_par ?_ | refine' d_pr ?_
  | refine' d_cInt ?_ | refine' d_cBl ?_ | refine' d_cStr ?_ | refine' d_cNon ?_ | refine' d_op ?_ | refine' d_un ?_ | refine' d_test ?_ | refine' d_B ?_ | refine' d_bl ?_
  | refine' d_and ?_ | refine' d_or ?_ | refine' d_not ?_ | refine' d_yes ?_ | refine' d_if ?_ | refine' d_andV ?_ | refine' d_orV ?_ | refine' d_notV ?_ | refine' d_chain ?_
  | refine' d_nil ?_ | refine' d_cons ?_ | refine' d_CB ?_ | refine' d_tup ?_ | refine' d_call ?_ | refine' d_fld ?_ | refine' d_sfld ?_ | refine' d_meth ?_ | refine' d_make ?_
  | refine' d_din ?_ | refine' d_dnin ?_ | refine' d_dget ?_ | refine' d_dput ?_ | refine' d_dsetd ?_ | refine' d_for ?_ | refine' d_lc ?_
  | refine' i_seq ?_ | refine' i_list ?_ | refine' i_tup ?_ | refine' i_str ?_ | refine' i_rng1 ?_ | refine' i_rng2 ?_ | refine' i_rng3 ?_ | refine' i_zip ?_ | refine' i_enum ?_
  | refine' d_sl ?_ | refine' d_part ?_ | refine' d_nopart ?_ | refine' d_M1 ?_ | refine' d_M0 ?_ | refine' x_part ?_ | refine' x_strE ?_ | refine' x_seqF ?_ | refine' x_seqT ?_ | refine' x_lstF ?_ | refine' x_isLf ?_
  | refine' ⟨_, g_name ?_⟩ | refine' g_name ?_ | refine' g_nil ?_ | refine' g_cons ?_ | refine' ⟨_, g_sub ?_⟩ | refine' x_same ?_ | refine' d_BML rfl ?_ | refine' d_BML0 rfl ?_)
local macro_rules | `(tactic| walk_at "dv") => `(tactic| ((with_reducible refine' d_var ?hv ?_); (case hv => rfl)))
/-- a cell's content -/
local macro_rules | `(tactic| walk_at "hn") => `(tactic| first
  | assumption | exact Ne.symm (by assumption)
  | ((refine' h_ne ?ha ?hb); (case hb => assumption); (case ha => walk_at "hc"))
  | ((refine' Ne.symm (h_ne ?ha ?hb)); (case hb => assumption); (case ha => walk_at "hc")))
local macro_rules | `(tactic| walk_at "hc") => `(tactic| first
  | assumption | exact seth_same
  | ((refine' (seth_ne ?hn).trans ?hh); (case hn => walk_at "hn"); (case hh => walk_at "hc")))
/-- a sequence seen -/
local macro_rules | `(tactic| walk_at "sq") => `(tactic| first
  | exact LsV.f | exact SqV.l | exact SqV.t | assumption | exact Or.inl (by assumption) | ((refine' LsV.c ?e0); (case e0 => walk_at "hc")) | ((refine' SqV.c ?e0); (case e0 => walk_at "hc")) | assumption)
local macro_rules | `(tactic| walk_at "lk") => `(tactic| first | (with_reducible exact lk0) | exact lkN | (refine lkS (by decide +kernel) ?_; walk_at "lk"))
local macro_rules | `(tactic| walk_at "iv") => `(tactic| first | exact InsV.f | assumption | ((refine' InsV.c ?e0); (case e0 => walk_at "hc")))
local macro_rules | `(tactic| walk_at "dk") => `(tactic| first | exact DkV.f | assumption | ((refine' DkV.c ?e0); (case e0 => walk_at "hc")))
local macro_rules | `(tactic| walk_at "cls") => `(tactic| first | assumption | exact Txt.c_Signature (by assumption) | exact Txt.a_Signature_entries (by assumption) | exact Txt.a_Signature_grouped (by assumption))
local macro_rules | `(tactic| walk_at "he") => `(tactic| first | rfl | assumption | exact atI_nat (by assumption) | exact atI_eq (by assumption) (by omega))
local macro_rules | `(tactic| walk_at "hl") => `(tactic| first | assumption | (simp only [List.length_map, List.length_append, List.length_cons, List.length_nil, List.length_replicate, strLen_append]; omega) | omega | decide)
local macro_rules | `(tactic| walk_at "dx") => `(tactic| first
  | ((with_reducible refine' d_aug ?hv ?_); (case hv => rfl))
  | ((with_reducible refine' ⟨_, g_tup ?hl ?_⟩); (case hl => rfl))
  | ((with_reducible refine' g_tup ?hl ?_); (case hl => rfl))
  | ((with_reducible refine' ⟨_, g_seqT ?hl ?_⟩); (case hl => rfl))
  | ((with_reducible refine' g_seqT ?hl ?_); (case hl => rfl))
  | ((with_reducible refine' ⟨_, g_seqL ?hx ?hl ?_⟩); (case hx => walk_at "sq"); (case hl => rfl))
  | ((with_reducible refine' g_seqL ?hx ?hl ?_); (case hx => walk_at "sq"); (case hl => rfl))
  | ((with_reducible refine' g_nameV ?hm ?_); (case hm => simp))
  | (with_reducible refine' g_consV ?_)
  | (with_reducible refine' g_nilV ?_)
  | ((with_reducible refine' x_seqC ?hs ?_); (case hs => walk_at "hc"))
  | ((with_reducible refine' x_lstC ?hs ?_); (case hs => walk_at "hc"))
  | ((with_reducible refine' x_isL ?hs ?_); (case hs => walk_at "hc"))
  | ((with_reducible refine' x_size ?hs ?_); (case hs => walk_at "hl"))
  | ((with_reducible refine' x_rg1 ?hs ?_); (case hs => constructor <;> first | omega | (simp only [List.length_map]; omega)))
  | ((with_reducible refine' x_rg2 ?hs ?_); (case hs => refine ⟨?_, ?_, ?_, ?_⟩ <;> first | omega | (simp only [List.length_map]; omega)))
  | (with_reducible refine' w_addI ?_)
  | ((with_reducible refine' w_mulI ?hc ?_); (case hc => first | assumption | exact cmul_small (by constructor <;> omega) (by constructor <;> omega)))
  | (with_reducible refine' v_I0i ?_)
  | (with_reducible refine' v_I0b ?_)
  | (with_reducible refine' v_Ui ?_)
  | (with_reducible refine' w_eqI ?_)
  | (with_reducible refine' w_eqS ?_)
  | (with_reducible refine' w_eqB ?_)
  | (with_reducible refine' w_neI ?_)
  | (with_reducible refine' w_neS ?_)
  | (with_reducible refine' w_neB ?_)
  | (with_reducible refine' v_isN ?_)
  | (with_reducible refine' v_notN ?_)
  | (with_reducible refine' w_inSign ?_)
  | ((with_reducible refine' w_inS ?hs ?_); (case hs => walk_at "sq"))
  | ((with_reducible refine' w_ninS ?hs ?_); (case hs => walk_at "sq"))
  | ((with_reducible refine' w_inI ?hs ?_); (case hs => walk_at "sq"))
  | ((with_reducible refine' w_ninI ?hs ?_); (case hs => walk_at "sq"))
  | ((with_reducible refine' w_addS ?hl ?_); (case hl => walk_at "hl"))
  | ((with_reducible refine' w_catT ?hl ?_); (case hl => walk_at "hl"))
  | ((with_reducible refine' w_slS ?hl ?_); (case hl => walk_at "hl"))
  | (with_reducible refine' w_slT ?_)
  | ((with_reducible refine' w_slL ?hs (.f ?_)); (case hs => walk_at "sq"))
  | ((with_reducible refine' w_lenS ?hl ?_); (case hl => walk_at "hl"))
  | ((with_reducible refine' w_len ?hs ?_); (case hs => walk_at "sq"))
  | ((with_reducible refine' w_lenD ?hs ?_); (case hs => walk_at "dk"))
  | ((with_reducible refine' v_tupOf ?hs ?_); (case hs => walk_at "sq"))
  | ((with_reducible refine' w_list ?hs (.f ?_)); (case hs => walk_at "sq"))
  | ((with_reducible refine' v_sum ?hs ?_); (case hs => walk_at "sq"))
  | ((with_reducible refine' v_all ?hs ?_); (case hs => walk_at "sq"))
  | ((with_reducible refine' v_any ?hs ?_); (case hs => walk_at "sq"))
  | (with_reducible refine' v_max2 ?_)
  | (with_reducible refine' v_min2 ?_)
  | (with_reducible refine' v_int1 ?_)
  | (with_reducible refine' v_int1b ?_)
  | (with_reducible refine' v_abs ?_)
  | ((with_reducible refine' w_ixT ?he ?_); (case he => walk_at "he"))
  | ((with_reducible refine' w_ixL ?hs ?he ?_); (case hs => walk_at "sq"); (case he => walk_at "he"))
  | ((with_reducible refine' v_app ?hs ?hl ?_); (case hs => walk_at "hc"); (case hl => walk_at "hl"))
  | ((with_reducible refine' v_insert ?hs ?hl ?h0 ?_); (case hs => walk_at "hc"); (case hl => walk_at "hl"); (case h0 => constructor <;> omega))
  | ((with_reducible refine' x_fldV ?hi ?hc ?hn ?hl ?_); (case hi => walk_at "iv"); (case hc => walk_at "cls"); (case hn => walk_at "cls"); (case hl => walk_at "lk"))
  | ((with_reducible refine' x_methV ?hi ?hl ?_); (case hi => walk_at "iv"); (case hl => walk_at "lk"))
  | ((with_reducible refine' x_sfldC ?hs ?hc ?hn ?hl ?_); (case hs => walk_at "hc"); (case hc => walk_at "cls"); (case hn => walk_at "cls"); (case hl => first | simp | (refine Nat.lt_of_le_of_lt putFD_len ?_; simp) | (refine Nat.lt_of_le_of_lt putFD_len (Nat.lt_of_le_of_lt (Nat.succ_le_succ putFD_len) ?_); simp)))
  | ((with_reducible refine' x_inS ?hs ?_); (case hs => walk_at "dk"))
  | ((with_reducible refine' x_inI ?hs ?_); (case hs => walk_at "dk"))
  | ((with_reducible refine' x_getS ?hs ?he ?_); (case hs => walk_at "dk"); (case he => assumption))
  | ((with_reducible refine' x_getI ?hs ?he ?_); (case hs => walk_at "dk"); (case he => assumption))
  | ((with_reducible refine' x_putS ?hs ?hl ?_); (case hs => walk_at "hc"); (case hl => walk_at "hl"))
  | ((with_reducible refine' x_putI ?hs ?hl ?_); (case hs => walk_at "hc"); (case hl => walk_at "hl"))
  | ((with_reducible refine' x_isK ?hs ?_); (case hs => walk_at "dk"))
  | ((with_reducible refine' x_isDV ?hs ?_); (case hs => walk_at "dk")))
local macro_rules | `(tactic| walk_at "dd") => `(tactic| repeat' (first | walk_at "d1" | walk_at "dv" | walk_at "dx"))

/-! ### a small tree of each kind -/
section
variable {P : Program} {w : World} {K : PySem.W.Frag} {mg : Str → Option Value} {base : Heap} {e : Env}
def tLeast : TD := fun ds h Q => ∃ (ts : List Trip) (n : Nat), ds = [.lst (ts.map trD)] ∧ Good isNm ts ∧ n ≤ ts.length ∧ (∀ k ∈ kindsOf ts, Ez ts n k) ∧
  ∀ l : List (Str × GX.T), (∀ k ∈ kindsOf ts, k ∈ l.map (·.1)) → SmallL ts l → Q (.dK (ltK l)) h
theorem sc__law_least : FnScope ["_law_triples", "_law_found", "_law_many", "_law_turn", "_law_constructor", "_law_kind", "_law_parts", "_law_part"] ["_law_triples"] (defScope s__law_least) :=
  ⟨rfl, rfl, rfl, by decide +kernel, rfl, by decide +kernel, by decide +kernel⟩
theorem ok__law_least (T : Txt K mg e) : FnG P w K mg base CX0 1 e.f__law_least e.d__law_least ["_law_triples"] (spD (tLeast)) := by
  refine okD T.F__law_least sc__law_least (fun ds h Q z => by obtain ⟨ts, n, rfl, _⟩ := z; rfl) (fun cdv A outer s H E hG hr => ?_)
  refine ⟨_, (pss_cons (ps_set (i := 1) sc__law_least.nd rfl (by first | exact Or.inl rfl | exact Or.inr rfl) pe_dnewK)
  (pss_cons (ps_for PassesOwn.never rfl (pi_range1 (by rfl) T.n_range (pa_cons pe_int pa_nil)) (pg_name (i := 2) sc__law_least.nd rfl (by first | exact Or.inl rfl | exact Or.inr rfl))
    (pss_one (ps_for PassesOwn.never rfl (pi_range1 (by rfl) T.n_range (pa_cons (pe_callB (call_lenA (K := K) rfl) (by rfl) T.n_len (by decide +kernel) (pa_cons (pv 0) pa_nil)) pa_nil)) (pg_name (i := 3) sc__law_least.nd rfl (by first | exact Or.inl rfl | exact Or.inr rfl))
        (pss_one (ps_for PassesOwn.never rfl (pi_seqK (K := K) rfl (pv 0)) (pg_seqK (K := K) rfl rfl (pgs_cons (pg_name (i := 4) sc__law_least.nd rfl (by first | exact Or.inl rfl | exact Or.inr rfl)) (pgs_cons (pg_name (i := 5) sc__law_least.nd rfl (by first | exact Or.inl rfl | exact Or.inr rfl)) (pgs_cons (pg_name (i := 6) sc__law_least.nd rfl (by first | exact Or.inl rfl | exact Or.inr rfl)) pgs_nil))))
            (pss_one (ps_if (PW.pt (pw_and (pt_cmp (pc_dnotin (hu_of hr) (pv 5) (pv 1))) (pw_and (pt_cmpR op_le (pe_callB (call_lenA (K := K) rfl) (by rfl) T.n_len (by decide +kernel) (pa_cons (pv 6) pa_nil)) (pv 2) (nomark _)) (pw_and1 (pt_val (pe_callB (cr_allK (K := K) rfl rfl) (by rfl) T.n_all (by decide +kernel) (pa_cons (pe_lc (own := [("_law_part", 7)]) (g := (gName 7)) (tt := tYes) rfl sc__law_least.nd (pi_seqK (K := K) rfl (pv 6)) (blkOk_by (own := [("_law_part", 7)]) (N := ["_law_triples", "_law_found", "_law_many", "_law_turn", "_law_constructor", "_law_kind", "_law_parts", "_law_part"]) (sc := defScope (top 38)) (by decide +kernel)) (fun _ _ _ _ _ => (pg_name (i := 7) sc__law_least.nd rfl (by first | exact Or.inl rfl | exact Or.inr rfl))) (fun _ _ _ _ _ => pts_nil) (fun _ _ _ _ _ => (pe_cmp (pc_din (hu_of hr) (pv 7) (pv 1)) rfl))) pa_nil)))))))
                (pss_one (ps_dput (hu_of hr) (pv 1) (pv 5) (pe_op (op_addG (K := K) rfl) (pe_tup (pa_cons (pv 4) pa_nil)) (pe_callTy (call_tupleK (K := K) rfl) (by rfl) T.n_tuple (by decide +kernel) (pa_cons (pe_lc (own := [("_law_part", 7)]) (g := (gName 7)) (tt := tYes) rfl sc__law_least.nd (pi_seqK (K := K) rfl (pv 6)) (blkOk_by (own := [("_law_part", 7)]) (N := ["_law_triples", "_law_found", "_law_many", "_law_turn", "_law_constructor", "_law_kind", "_law_parts", "_law_part"]) (sc := defScope (top 38)) (by decide +kernel)) (fun _ _ _ _ _ => (pg_name (i := 7) sc__law_least.nd rfl (by first | exact Or.inl rfl | exact Or.inr rfl))) (fun _ _ _ _ _ => pts_nil) (fun _ _ _ _ _ => (pe_dget (hu_of hr) (pv 1) (pv 7) (fun _ _ => rfl)))) pa_nil))) rfl))
                pss_nil)))))))
  (pss_one (ps_ret (pv 1))))), ?_⟩
  intro ds h Q z
  try dsimp only [cxOf, Cx.nox, Cx.wish]
  obtain ⟨ts, n, rfl, good, hn, hez, k⟩ := z
  have few := good.few
  walk_at "dd"
  refine d_dnewK fun f nf => ?_
  walk_at "dd"
  refine for_D [2, 3, 4, 5, 6, 7] (List.range 5) natD rfl (fun m ρ h' => ∃ l : List (Str × GX.T), ρ = [some (.lst (ts.map trD)), some (.ref f), none, none, none, none, none, none] ∧ h' = seth h f (.dK (ltK l)) ∧ SmallL ts l ∧ (2 ≤ m → ∀ k ∈ kindsOf ts, k ∈ l.map (·.1))) ?_ (fun _ _ _ _ _ => trivial) ?_ ?_
  · exact ⟨[], rfl, rfl, .nil, fun h => by omega⟩
  · rintro m x ρ h' ei ⟨l, rfl, rfl, sm, al⟩
    have hm : m < 5 := by
      have := (List.getElem?_eq_some_iff.mp ei).1
      rwa [List.length_range] at this
    rw [List.getElem?_range hm] at ei
    cases ei
    walk_at "dd"
    rw [rngD_n]
    refine for_D [3, 4, 5, 6, 7] (List.range (ts.map trD).length) natD rfl (fun τ ρ h' => ∃ l : List (Str × GX.T), ρ = [some (.lst (ts.map trD)), some (.ref f), some (natD m), none, none, none, none, none] ∧ h' = seth h f (.dK (ltK l)) ∧ SmallL ts l ∧ (2 ≤ m → ∀ k ∈ kindsOf ts, k ∈ l.map (·.1)) ∧ (m = 1 → ∀ k, Ez ts τ k → k ∈ l.map (·.1))) ?_ (fun _ _ _ _ _ => trivial) ?_ ?_
    · exact ⟨l, rfl, rfl, sm, al, fun _ k e => by cases e⟩
    · rintro τ x ρ h' eτ ⟨l, rfl, rfl, sm, al, ez⟩
      walk_at "dd"
      refine for_P [4, 5, 6, 7] ts trD rfl (fun pre ρ h' => ∃ l : List (Str × GX.T), ρ = [some (.lst (ts.map trD)), some (.ref f), some (natD m), some (natD x), none, none, none, none] ∧ h' = seth h f (.dK (ltK l)) ∧ SmallL ts l ∧ (2 ≤ m → ∀ k ∈ kindsOf ts, k ∈ l.map (·.1)) ∧ (m = 1 → (∀ k, Ez ts τ k → k ∈ l.map (·.1)) ∧ ∀ t ∈ pre, t.2.2.length ≤ 1 → (∀ p ∈ t.2.2, Ez ts τ p) → t.2.1 ∈ l.map (·.1))) ?_ (fun _ _ _ _ => trivial) ?_ ?_
      · exact ⟨l, rfl, rfl, sm, al, fun h => ⟨ez h, fun t h => nomatch h⟩⟩
      · rintro pre t post ρ h' el ⟨l, rfl, rfl, sm, al, ez⟩
        have tm : t ∈ ts := by rw [el]; exact List.mem_append_right _ (List.mem_cons_self ..)
        have lp := good.parts t tm
        have fl := sm.few
        have fk := good.kinds
        have hl' : (ltK l).length ≤ 100000 := by unfold ltK; rw [List.length_map]; omega
        have skip : (m = 1 → t.2.2.length ≤ 1 → (∀ p ∈ t.2.2, p ∈ l.map (·.1)) → t.2.1 ∈ l.map (·.1)) → (m = 1 → (∀ k, Ez ts τ k → k ∈ l.map (·.1)) ∧ ∀ u ∈ pre ++ [t], u.2.2.length ≤ 1 → (∀ p ∈ u.2.2, Ez ts τ p) → u.2.1 ∈ l.map (·.1)) := fun hs h1 => by
          obtain ⟨a, b⟩ := ez h1
          refine ⟨a, fun u hu h2 h3 => ?_⟩
          rcases List.mem_append.mp hu with q | q
          · exact b u q h2 h3
          · have := List.mem_singleton.mp q
            subst this
            exact hs h1 h2 fun p hp => a p (h3 p hp)
        walk_at "dd"
        rw [ltK_in]
        refine ite_b (fun hc => ?_) (fun hc => ?_)
        · walk_at "dd"
          have nk : t.2.1 ∉ l.map (·.1) := by simpa using hc
          have km : t.2.1 ∈ kindsOf ts := (mem_kindsOf _ _).mpr ⟨t, tm, rfl⟩
          have ll : (strsD t.2.2).length = t.2.2.length := List.length_map ..
          refine ite_b (fun h2 => ?_) (fun h2 => ?_)
          · walk_at "dd"
            refine lc_map t.2.2 D.str (fun p => .bl (decide (p ∈ l.map (·.1)))) rfl (by omega) .t ?_ (.f ?_)
            · intro p acc j z np ez2
              walk_at "dd"
              rw [ltK_in]
            · walk_at "dd"
              refine v_all (bs := t.2.2.map fun p => decide (p ∈ l.map (·.1))) (by rw [List.map_map]; exact .f) ?_
              walk_at "dd"
              rw [List.all_map]
              refine ite_b (fun h3 => ?_) (fun h3 => ?_)
              · have hin : ∀ p ∈ t.2.2, p ∈ l.map (·.1) := fun p hp => by
                  have := List.all_eq_true.mp h3 p hp
                  exact of_decide_eq_true this
                have h2' := of_decide_eq_true h2
                have m1 : m ≤ 1 := by
                  rcases Nat.lt_or_ge 1 m with q | q
                  · exact absurd (al q _ km) nk
                  · exact q
                walk_at "dd"
                refine lc_rel t.2.2 D.str tD (fun _ p u => (p, u) ∈ l) rfl (by omega) .t ?_ ?_
                · intro p acc j z np ej
                  obtain ⟨u, um, eu⟩ := ltK_at sm.nd (hin z (List.mem_of_getElem? ej))
                  walk_at "dd"
                  exact ⟨u, rfl, um⟩
                · intro us hul hus
                  refine .f ?_
                  walk_at "dd"
                  refine ⟨l ++ [(t.2.1, .node t.1 us)], rfl, ?_, sm.add tm nk hul (by omega) fun i p u e1 e2 => hus i p u e1 e2, fun h => absurd h (by omega), fun h1 => ?_⟩
                  · rw [seth_seth, ← ltK_put _ nk, tD_node]
                    rfl
                  · obtain ⟨a, b⟩ := ez h1
                    have up : ∀ k2, k2 ∈ l.map (·.1) → k2 ∈ (l ++ [(t.2.1, GX.T.node t.1 us)]).map (·.1) := fun k2 h => by
                      rw [List.map_append]
                      exact List.mem_append_left _ h
                    refine ⟨fun k2 e2 => up k2 (a k2 e2), fun u hu g1 g2 => ?_⟩
                    rcases List.mem_append.mp hu with q | q
                    · exact up _ (b u q g1 g2)
                    · rw [List.mem_singleton.mp q, List.map_append]
                      exact List.mem_append_right _ (List.mem_singleton.mpr rfl)
              · walk_at "dd"
                refine ⟨l, rfl, rfl, sm, al, skip fun _ _ hp => absurd h3 ?_⟩
                have : (t.2.2.all (id ∘ fun p => decide (p ∈ l.map (·.1)))) = true := List.all_eq_true.mpr fun p hp2 => decide_eq_true (hp p hp2)
                rw [this]
                exact fun h => nomatch h
          · refine ite_f rfl ?_
            walk_at "dd"
            exact ⟨l, rfl, rfl, sm, al, skip fun h1 g1 _ => absurd (of_decide_eq_false h2) (by omega)⟩
        · refine ite_f rfl ?_
          walk_at "dd"
          have ik : t.2.1 ∈ l.map (·.1) := by simpa using hc
          exact ⟨l, rfl, rfl, sm, al, skip fun _ _ _ => ik⟩
      · rintro ρ h' ⟨l, rfl, rfl, sm, al, ez⟩
        walk_at "dd"
        refine ⟨l, rfl, rfl, sm, al, fun h1 k2 e2 => ?_⟩
        obtain ⟨a, b⟩ := ez h1
        cases e2 with
        | mk tm h2 h3 => exact b _ tm h2 h3
    · rintro ρ h' ⟨l, rfl, rfl, sm, al, ez⟩
      rw [List.length_range, List.length_map] at ez
      walk_at "dd"
      refine ⟨l, rfl, rfl, sm, fun h2 k2 hk2 => ?_⟩
      by_cases q : m = 1
      · exact ez q k2 ((hez k2 hk2).up _ hn)
      · exact al (by omega) k2 hk2
  · rintro ρ h' ⟨l, rfl, rfl, sm, al⟩
    rw [List.length_range] at al
    refine dS_frz (i := 1) (x := .ref f) rfl (.dK seth_same rfl .id) ?_
    rw [delh_seth nf]
    walk_at "dd"
    exact frz0 (k l (al (by decide)) sm)
end

end Toy

set_option Elab.async false
set_option linter.all false
set_option maxRecDepth 100000
set_option maxHeartbeats 4000000
namespace Toy
open PySem L2 GX PySem.Spec TL
/-! ### one step of a reading over data -/
local macro_rules | `(tactic| walk_at "d1") => `(tactic| with_reducible first
  | refine' d_seq ?_ | refine' d_asg ?_ | refine' d_retF ?_ | refine' d_retN ?_ | refine' d_drop ?_ | refine' d_next ?_ | refine' d_break ?_ | refine' d_cont ?_ | refine' d_ifS ?_ | refine' d_par ?_ | refine' d_pr ?_
  | refine' d_cInt ?_ | refine' d_cBl ?_ | refine' d_cStr ?_ | refine' d_cNon ?_ | refine' d_op ?_ | refine' d_un ?_ | refine' d_test ?_ | refine' d_B ?_ | refine' d_bl ?_
  | refine' d_and ?_ | refine' d_or ?_ | refine' d_not ?_ | refine' d_yes ?_ | refine' d_if ?_ | refine' d_andV ?_ | refine' d_orV ?_ | refine' d_notV ?_ | refine' d_chain ?_
  | refine' d_nil ?_ | refine' d_cons ?_ | refine' d_CB ?_ | refine' d_tup ?_ | refine' d_call ?_ | refine' d_fld ?_ | refine' d_sfld ?_ | refine' d_meth ?_ | refine' d_make ?_
  | refine' d_din ?_ | refine' d_dnin ?_ | refine' d_dget ?_ | refine' d_dput ?_ | refine' d_dsetd ?_ | refine' d_for ?_ | refine' d_lc ?_
  | refine' i_seq ?_ | refine' i_list ?_ | refine' i_tup ?_ | refine' i_str ?_ | refine' i_rng1 ?_ | refine' i_rng2 ?_ | refine' i_rng3 ?_ | refine' i_zip ?_ | refine' i_enum ?_
  | refine' d_sl ?_ | refine' d_part ?_ | refine' d_nopart ?_ | refine' d_M1 ?_ | refine' d_M0 ?_ | refine' x_part ?_ | refine' x_strE ?_ | refine' x_seqF ?_ | refine' x_seqT ?_ | refine' x_lstF ?_ | refine' x_isLf ?_
  | refine' ⟨_, g_name ?_⟩ | refine' g_name ?_ | refine' g_nil ?_ | refine' g_cons ?_ | refine' ⟨_, g_sub ?_⟩ | refine' x_same ?_ | refine' d_BML rfl ?_ | refine' d_BML0 rfl ?_)
local macro_rules | `(tactic| walk_at "dv") => `(tactic| ((with_reducible refine' d_var ?hv ?_); (case hv => rfl)))
/-- a cell's content -/
local macro_rules | `(tactic| walk_at "hn") => `(tactic| first
  | assumption | exact Ne.symm (by assumption)
  | ((refine' h_ne ?ha ?hb); (case hb => assumption); (case ha => walk_at "hc"))
  | ((refine' Ne.symm (h_ne ?ha ?hb)); (case hb => assumption); (case ha => walk_at "hc")))
local macro_rules | `(tactic| walk_at "hc") => `(tactic| first
  | assumption | exact seth_same
  | ((refine' (seth_ne ?hn).trans ?hh); (case hn => walk_at "hn"); (case hh => walk_at "hc")))
/-- a sequence seen -/
local macro_rules | `(tactic| walk_at "sq") => `(tactic| first
  | exact LsV.f | exact SqV.l | exact SqV.t | assumption | exact Or.inl (by assumption) | ((refine' LsV.c ?e0); (case e0 => walk_at "hc")) | ((refine' SqV.c ?e0); (case e0 => walk_at "hc")) | assumption)
local macro_rules | `(tactic| walk_at "lk") => `(tactic| first | (with_reducible exact lk0) | exact lkN | (refine lkS (by decide +kernel) ?_; walk_at "lk"))
local macro_rules | `(tactic| walk_at "iv") => `(tactic| first | exact InsV.f | assumption | ((refine' InsV.c ?e0); (case e0 => walk_at "hc")))
local macro_rules | `(tactic| walk_at "dk") => `(tactic| first | exact DkV.f | assumption | ((refine' DkV.c ?e0); (case e0 => walk_at "hc")))
local macro_rules | `(tactic| walk_at "cls") => `(tactic| first | assumption | exact Txt.c_Signature (by assumption) | exact Txt.a_Signature_entries (by assumption) | exact Txt.a_Signature_grouped (by assumption))
local macro_rules | `(tactic| walk_at "he") => `(tactic| first | rfl | assumption | exact atI_nat (by assumption) | exact atI_eq (by assumption) (by omega))
local macro_rules | `(tactic| walk_at "hl") => `(tactic| first | assumption | (simp only [List.length_map, List.length_append, List.length_cons, List.length_nil, List.length_replicate, strLen_append]; omega) | omega | decide)
local macro_rules | `(tactic| walk_at "dx") => `(tactic| first
  | ((with_reducible refine' d_aug ?hv ?_); (case hv => rfl))
  | ((with_reducible refine' ⟨_, g_tup ?hl ?_⟩); (case hl => rfl))
  | ((with_reducible refine' g_tup ?hl ?_); (case hl => rfl))
  | ((with_reducible refine' ⟨_, g_seqT ?hl ?_⟩); (case hl => rfl))
  | ((with_reducible refine' g_seqT ?hl ?_); (case hl => rfl))
  | ((with_reducible refine' ⟨_, g_seqL ?hx ?hl ?_⟩); (case hx => walk_at "sq"); (case hl => rfl))
  | ((with_reducible refine' g_seqL ?hx ?hl ?_); (case hx => walk_at "sq"); (case hl => rfl))
  | ((with_reducible refine' g_nameV ?hm ?_); (case hm => simp))
  | (with_reducible refine' g_consV ?_)
  | (with_reducible refine' g_nilV ?_)
  | ((with_reducible refine' x_seqC ?hs ?_); (case hs => walk_at "hc"))
  | ((with_reducible refine' x_lstC ?hs ?_); (case hs => walk_at "hc"))
  | ((with_reducible refine' x_isL ?hs ?_); (case hs => walk_at "hc"))
  | ((with_reducible refine' x_size ?hs ?_); (case hs => walk_at "hl"))
  | ((with_reducible refine' x_rg1 ?hs ?_); (case hs => constructor <;> first | omega | (simp only [List.length_map]; omega)))
  | ((with_reducible refine' x_rg2 ?hs ?_); (case hs => refine ⟨?_, ?_, ?_, ?_⟩ <;> first | omega | (simp only [List.length_map]; omega)))
  | (with_reducible refine' w_addI ?_)
  | ((with_reducible refine' w_mulI ?hc ?_); (case hc => first | assumption | exact cmul_small (by constructor <;> omega) (by constructor <;> omega)))
  | (with_reducible refine' v_I0i ?_)
  | (with_reducible refine' v_I0b ?_)
  | (with_reducible refine' v_Ui ?_)
  | (with_reducible refine' w_eqI ?_)
  | (with_reducible refine' w_eqS ?_)
  | (with_reducible refine' w_eqB ?_)
  | (with_reducible refine' w_neI ?_)
  | (with_reducible refine' w_neS ?_)
  | (with_reducible refine' w_neB ?_)
  | (with_reducible refine' v_isN ?_)
  | (with_reducible refine' v_notN ?_)
  | (with_reducible refine' w_inSign ?_)
  | ((with_reducible refine' w_inS ?hs ?_); (case hs => walk_at "sq"))
  | ((with_reducible refine' w_ninS ?hs ?_); (case hs => walk_at "sq"))
  | ((with_reducible refine' w_inI ?hs ?_); (case hs => walk_at "sq"))
  | ((with_reducible refine' w_ninI ?hs ?_); (case hs => walk_at "sq"))
  | ((with_reducible refine' w_addS ?hl ?_); (case hl => walk_at "hl"))
  | ((with_reducible refine' w_catT ?hl ?_); (case hl => walk_at "hl"))
  | ((with_reducible refine' w_slS ?hl ?_); (case hl => walk_at "hl"))
  | (with_reducible refine' w_slT ?_)
  | ((with_reducible refine' w_slL ?hs (.f ?_)); (case hs => walk_at "sq"))
  | ((with_reducible refine' w_lenS ?hl ?_); (case hl => walk_at "hl"))
  | ((with_reducible refine' w_len ?hs ?_); (case hs => walk_at "sq"))
  | ((with_reducible refine' w_lenD ?hs ?_); (case hs => walk_at "dk"))
  | ((with_reducible refine' v_tupOf ?hs ?_); (case hs => walk_at "sq"))
  | ((with_reducible refine' w_list ?hs (.f ?_)); (case hs => walk_at "sq"))
  | ((with_reducible refine' v_sum ?hs ?_); (case hs => walk_at "sq"))
  | ((with_reducible refine' v_all ?hs ?_); (case hs => walk_at "sq"))
  | ((with_reducible refine' v_any ?hs ?_); (case hs => walk_at "sq"))
  | (with_reducible refine' v_max2 ?_)
  | (with_reducible refine' v_min2 ?_)
  | (with_reducible refine' v_int1 ?_)
  | (with_reducible refine' v_int1b ?_)
  | (with_reducible refine' v_abs ?_)
  | ((with_reducible refine' w_ixT ?he ?_); (case he => walk_at "he"))
  | ((with_reducible refine' w_ixL ?hs ?he ?_); (case hs => walk_at "sq"); (case he => walk_at "he"))
  | ((with_reducible refine' v_app ?hs ?hl ?_); (case hs => walk_at "hc"); (case hl => walk_at "hl"))
  | ((with_reducible refine' v_insert ?hs ?hl ?h0 ?_); (case hs => walk_at "hc"); (case hl => walk_at "hl"); (case h0 => constructor <;> omega))
  | ((with_reducible refine' x_fldV ?hi ?hc ?hn ?hl ?_); (case hi => walk_at "iv"); (case hc => walk_at "cls"); (case hn => walk_at "cls"); (case hl => walk_at "lk"))
  | ((with_reducible refine' x_methV ?hi ?hl ?_); (case hi => walk_at "iv"); (case hl => walk_at "lk"))
  | ((with_reducible refine' x_sfldC ?hs ?hc ?hn ?hl ?_); (case hs => walk_at "hc"); (case hc => walk_at "cls"); (case hn => walk_at "cls"); (case hl => first | simp | (refine Nat.lt_of_le_of_lt putFD_len ?_; simp) | (refine Nat.lt_of_le_of_lt putFD_len (Nat.lt_of_le_of_lt (Nat.succ_le_succ putFD_len) ?_); simp)))
  | ((with_reducible refine' x_inS ?hs ?_); (case hs => walk_at "dk"))
  | ((with_reducible refine' x_inI ?hs ?_); (case hs => walk_at "dk"))
  | ((with_reducible refine' x_getS ?hs ?he ?_); (case hs => walk_at "dk"); (case he => assumption))
  | ((with_reducible refine' x_getI ?hs ?he ?_); (case hs => walk_at "dk"); (case he => assumption))
  | ((with_reducible refine' x_putS ?hs ?hl ?_); (case hs => walk_at "hc"); (case hl => walk_at "hl"))
  | ((with_reducible refine' x_putI ?hs ?hl ?_); (case hs => walk_at "hc"); (case hl => walk_at "hl"))
  | ((with_reducible refine' x_isK ?hs ?_); (case hs => walk_at "dk"))
  | ((with_reducible refine' x_isDV ?hs ?_); (case hs => walk_at "dk")))
local macro_rules | `(tactic| walk_at "dd") => `(tactic| repeat' (first | walk_at "d1" | walk_at "dv" | walk_at "dx"))

/-! ### a tree drawn -/
section
variable {P : Program} {w : World} {K : PySem.W.Frag} {mg : Str → Option Value} {base : Heap} {e : Env}
def tDTree (d : Nat) : TD := fun ds h Q => ∃ (a la : Addr) (ts : List Trip) (k : Str) (n d' : Nat), ds = [.ref a, .lst (ts.map trD), .str k, .int (d' : Int)] ∧ h a = some (.src la) ∧ Good isNm ts ∧ n ≤ ts.length ∧ (∀ k ∈ kindsOf ts, Ez ts n k) ∧
  k ∈ kindsOf ts ∧ d' < d ∧ ∀ u : GX.T, Ty ts k u → tsz u ≤ mxT d' → tdp u ≤ d' + 4 → Q (tD u) h
theorem sc__law_tree : FnScope ["_law_src", "_law_triples", "_law_kind", "_law_depth", "_law_constructor", "_law_same", "_law_parts", "_law_part"] ["_law_src", "_law_triples", "_law_kind", "_law_depth"] (defScope s__law_tree) :=
  ⟨rfl, rfl, rfl, by decide +kernel, rfl, by decide +kernel, by decide +kernel⟩
theorem ok__law_tree (T : Txt K mg e) (d : Nat) : FnG P w K mg base CX0 (d + 3) e.f__law_tree e.d__law_tree ["_law_src", "_law_triples", "_law_kind", "_law_depth"] (spD (tDTree d)) := by
  induction d with
  | zero =>
    refine okG T.F__law_tree sc__law_tree (fun vs H Q E h => ?_) (fun cdv A outer s H vs Q E hG hr h => ?_)
    · obtain ⟨ds, h, Q2, a, r, ⟨_, _, _, _, _, d', rfl, _, _, _, _, _, hd, _⟩, po⟩ := h
      cases hd
    · obtain ⟨ds, h, Q2, a, r, ⟨_, _, _, _, _, d', rfl, _, _, _, _, _, hd, _⟩, po⟩ := h
      cases hd
  | succ d ih =>
    refine okD T.F__law_tree sc__law_tree (fun ds h Q z => by obtain ⟨a, la, ts, k, n, d', rfl, _⟩ := z; rfl) (fun cdv A outer s H E hG hr => ?_)
    refine ⟨_, (pss_cons (ps_if (pt_cmpR op_lt (pv 3) pe_int (nomark _))
    (pss_one (ps_ret (pe_dget (hu_of hr) (pe_callG (ok__law_least T) hG (hr.mono (by first | decide | omega)) (by rfl) T.g__law_least T.F__law_least.kp T.b__law_least .nil pass0 (pa_cons (pv 1) pa_nil)) (pv 2) (fun _ _ => rfl))))
    pss_nil)
  (pss_cons (ps_asg (pe_callG (ok__law_of T) hG (hr.mono (by first | decide | omega)) (by rfl) T.g__law_of T.F__law_of.kp T.b__law_of .nil pass0 (pa_cons (pv 0) (pa_cons (pe_callG (ok__law_of_kind T) hG (hr.mono (by first | decide | omega)) (by rfl) T.g__law_of_kind T.F__law_of_kind.kp T.b__law_of_kind .nil pass0 (pa_cons (pv 1) (pa_cons (pv 2) pa_nil))) pa_nil))) (pg_seqK (K := K) rfl rfl (pgs_cons (pg_name (i := 4) sc__law_tree.nd rfl (by first | exact Or.inl rfl | exact Or.inr rfl)) (pgs_cons (pg_name (i := 5) sc__law_tree.nd rfl (by first | exact Or.inl rfl | exact Or.inr rfl)) (pgs_cons (pg_name (i := 6) sc__law_tree.nd rfl (by first | exact Or.inl rfl | exact Or.inr rfl)) pgs_nil)))))
  (pss_one (ps_ret (pe_op (op_addG (K := K) rfl) (pe_tup (pa_cons (pv 4) pa_nil)) (pe_callTy (call_tupleK (K := K) rfl) (by rfl) T.n_tuple (by decide +kernel) (pa_cons (pe_lc (own := [("_law_part", 7)]) (g := (gName 7)) (tt := tYes) rfl sc__law_tree.nd (pi_seqK (K := K) rfl (pv 6)) (blkOk_by (own := [("_law_part", 7)]) (N := ["_law_src", "_law_triples", "_law_kind", "_law_depth", "_law_constructor", "_law_same", "_law_parts", "_law_part"]) (sc := defScope (top 39)) (by decide +kernel)) (fun _ _ _ _ _ => (pg_name (i := 7) sc__law_tree.nd rfl (by first | exact Or.inl rfl | exact Or.inr rfl))) (fun _ _ _ _ _ => pts_nil) (fun _ _ _ _ _ => (pe_callG ih hG hr (by rfl) T.g__law_tree T.F__law_tree.kp T.b__law_tree .nil pass0 (pa_cons (pv 0) (pa_cons (pv 1) (pa_cons (pv 7) (pa_cons (pe_op op_sub (pv 3) pe_int) pa_nil))))))) pa_nil))))))), ?_⟩
    intro ds h Q z
    try dsimp only [cxOf, Cx.nox, Cx.wish]
    obtain ⟨a, la, ts, k, n, d', rfl, ea, good, hn, hez, hk, hd, q⟩ := z
    have few := good.few
    walk_at "dd"
    refine ite_b (fun hc => ?_) (fun hc => ?_)
    · have d0 : d' = 0 := by
        have := of_decide_eq_true hc
        omega
      subst d0
      walk_at "dd"
      refine ⟨ts, n, rfl, good, hn, hez, fun l al sm => ?_⟩
      obtain ⟨u, um, eu⟩ := ltK_at sm.nd (al k hk)
      obtain ⟨_, ty, hz⟩ := sm.all _ um
      have h4 := Nat.le_trans sm.few good.kinds
      have hz2 : tsz u ≤ l.length := hz
      have := tdp_le_tsz u
      walk_at "dd"
      exact frz0 (q u ty (by show tsz u ≤ 4; omega) (by omega))
    · have d1 : ∃ d2, d' = d2 + 1 := ⟨d' - 1, by
        have := of_decide_eq_false hc
        omega⟩
      obtain ⟨d2, rfl⟩ := d1
      walk_at "dd"
      refine ⟨ts, k, rfl, by omega, ?_⟩
      walk_at "dd"
      obtain ⟨t0, t0m, t0k⟩ := (mem_kindsOf _ _).mp hk
      refine ⟨a, la, _, _, rfl, ea, .f, ?_, ?_, fun y hy => ?_⟩
      · intro e0
        have := List.map_eq_nil_iff.mp e0
        have hm : t0 ∈ ts.filter fun t => decide (t.2.1 = k) := List.mem_filter.mpr ⟨t0m, decide_eq_true t0k⟩
        rw [this] at hm
        cases hm
      · rw [List.length_map]
        exact Nat.lt_of_le_of_lt (List.length_filter_le ..) (by omega)
      · obtain ⟨t, ht, rfl⟩ := List.mem_map.mp hy
        obtain ⟨tm, tk⟩ := List.mem_filter.mp ht
        have tk := of_decide_eq_true tk
        subst tk
        have lp := good.parts t tm
        walk_at "dd"
        refine lc_rel t.2.2 D.str tD (fun _ p u => Ty ts p u ∧ tsz u ≤ mxT d2 ∧ tdp u ≤ d2 + 4) rfl (by omega) .t ?_ ?_
        · intro p acc j z np ez
          walk_at "dd"
          refine ⟨a, la, ts, z, n, d2, by rw [show (((d2 + 1 : Nat) : Int) - 1) = (d2 : Int) from by omega], by walk_at "hc", good, hn, hez, good.known t tm z (List.mem_of_getElem? ez), by omega, fun u h1 h2 h4 => ?_⟩
          exact ⟨rfl, u, rfl, h1, h2, h4⟩
        · intro us hul hus
          refine .f ?_
          walk_at "dd"
          have hu : ∀ (i : Nat) (u : GX.T), us[i]? = some u → ∃ p, t.2.2[i]? = some p ∧ Ty ts p u ∧ tsz u ≤ mxT d2 ∧ tdp u ≤ d2 + 4 := fun i u eu => by
            have hi := (List.getElem?_eq_some_iff.mp eu).1
            have ep := List.getElem?_eq_getElem (show i < t.2.2.length by omega)
            exact ⟨_, ep, hus i _ u ep eu⟩
          have hm : ∀ u ∈ us, tsz u ≤ mxT d2 ∧ tdp u ≤ d2 + 4 := fun u h => by
            obtain ⟨i, hi⟩ := List.getElem?_of_mem h
            obtain ⟨p, _, _, h2, h4⟩ := hu i u hi
            exact ⟨h2, h4⟩
          have z1 := tszs_max fun u h => (hm u h).1
          have z2 := tdps_max fun u h => (hm u h).2
          have z3 : us.length * mxT d2 ≤ 3 * mxT d2 := Nat.mul_le_mul_right _ (by omega)
          have q2 := q (.node t.1 us) (.node tm hul fun i p c e1 e2 => by
            obtain ⟨p2, e3, h1, _⟩ := hu i c e2
            rw [e1] at e3
            cases e3
            exact h1) (by rw [tsz_node]; show _ ≤ 1 + 3 * mxT d2; omega) (by rw [tdp]; omega)
          rw [tD_node] at q2
          exact frz0 q2
end

end Toy

set_option Elab.async false
set_option linter.all false
set_option maxRecDepth 100000
set_option maxHeartbeats 4000000
namespace Toy
open PySem L2 GX PySem.Spec TL
/-! ### one step of a reading over data -/
local macro_rules | `(tactic| walk_at "d1") => `(tactic| with_reducible first
  | refine' d_seq ?_ | refine' d_asg ?_ | refine' d_retF ?_ | refine' d_retN ?_ | refine' d_drop ?_ | refine' d_next ?_ | refine' d_break ?_ | refine' d_cont ?_ | refine' d_ifS ?_ | refine' d_par ?_ | refine' d_pr ?_
  | refine' d_cInt ?_ | refine' d_cBl ?_ | refine' d_cStr ?_ | refine' d_cNon ?_ | refine' d_op ?_ | refine' d_un ?_ | refine' d_test ?_ | refine' d_B ?_ | refine' d_bl ?_
  | refine' d_and ?_ | refine' d_or ?_ | refine' d_not ?_ | refine' d_yes ?_ | refine' d_if ?_ | refine' d_andV ?_ | refine' d_orV ?_ | refine' d_notV ?_ | refine' d_chain ?_
  | refine' d_nil ?_ | refine' d_cons ?_ | refine' d_CB ?_ | refine' d_tup ?_ | refine' d_call ?_ | refine' d_fld ?_ | refine' d_sfld ?_ | refine' d_meth ?_ | refine' d_make ?_
  | refine' d_din ?_ | refine' d_dnin ?_ | refine' d_dget ?_ | refine' d_dput ?_ | refine' d_dsetd ?_ | refine' d_for ?_ | refine' d_lc ?_
  | refine' i_seq ?_ | refine' i_list ?_ | refine' i_tup ?_ | refine' i_str ?_ | refine' i_rng1 ?_ | refine' i_rng2 ?_ | refine' i_rng3 ?_ | refine' i_zip ?_ | refine' i_enum ?_
  | refine' d_sl ?_ | refine' d_part ?_ | refine' d_nopart ?_ | refine' d_M1 ?_ | refine' d_M0 ?_ | refine' x_part ?_ | refine' x_strE ?_ | refine' x_seqF ?_ | refine' x_seqT ?_ | refine' x_lstF ?_ | refine' x_isLf ?_
  | refine' ⟨_, g_name ?_⟩ | refine' g_name ?_ | refine' g_nil ?_ | refine' g_cons ?_ | refine' ⟨_, g_sub ?_⟩ | refine' x_same ?_ | refine' d_BML rfl ?_ | refine' d_BML0 rfl ?_)
local macro_rules | `(tactic| walk_at "dv") => `(tactic| ((with_reducible refine' d_var ?hv ?_); (case hv => rfl)))
/-- a cell's content -/
local macro_rules | `(tactic| walk_at "hn") => `(tactic| first
  | assumption | exact Ne.symm (by assumption)
  | ((refine' h_ne ?ha ?hb); (case hb => assumption); (case ha => walk_at "hc"))
  | ((refine' Ne.symm (h_ne ?ha ?hb)); (case hb => assumption); (case ha => walk_at "hc")))
local macro_rules | `(tactic| walk_at "hc") => `(tactic| first
  | assumption | exact seth_same
  | ((refine' (seth_ne ?hn).trans ?hh); (case hn => walk_at "hn"); (case hh => walk_at "hc")))
/-- a sequence seen -/
local macro_rules | `(tactic| walk_at "sq") => `(tactic| first
  | exact LsV.f | exact SqV.l | exact SqV.t | assumption | exact Or.inl (by assumption) | ((refine' LsV.c ?e0); (case e0 => walk_at "hc")) | ((refine' SqV.c ?e0); (case e0 => walk_at "hc")) | assumption)
local macro_rules | `(tactic| walk_at "lk") => `(tactic| first | (with_reducible exact lk0) | exact lkN | (refine lkS (by decide +kernel) ?_; walk_at "lk"))
local macro_rules | `(tactic| walk_at "iv") => `(tactic| first | exact InsV.f | assumption | ((refine' InsV.c ?e0); (case e0 => walk_at "hc")))
local macro_rules | `(tactic| walk_at "dk") => `(tactic| first | exact DkV.f | assumption | ((refine' DkV.c ?e0); (case e0 => walk_at "hc")))
local macro_rules | `(tactic| walk_at "cls") => `(tactic| first | assumption | exact Txt.c_Signature (by assumption) | exact Txt.a_Signature_entries (by assumption) | exact Txt.a_Signature_grouped (by assumption))
local macro_rules | `(tactic| walk_at "he") => `(tactic| first | rfl | assumption | exact atI_nat (by assumption) | exact atI_eq (by assumption) (by omega))
local macro_rules | `(tactic| walk_at "hl") => `(tactic| first | assumption | (simp only [List.length_map, List.length_append, List.length_cons, List.length_nil, List.length_replicate, strLen_append]; omega) | omega | decide)
local macro_rules | `(tactic| walk_at "dx") => `(tactic| first
  | ((with_reducible refine' d_aug ?hv ?_); (case hv => rfl))
  | ((with_reducible refine' ⟨_, g_tup ?hl ?_⟩); (case hl => rfl))
  | ((with_reducible refine' g_tup ?hl ?_); (case hl => rfl))
  | ((with_reducible refine' ⟨_, g_seqT ?hl ?_⟩); (case hl => rfl))
  | ((with_reducible refine' g_seqT ?hl ?_); (case hl => rfl))
  | ((with_reducible refine' ⟨_, g_seqL ?hx ?hl ?_⟩); (case hx => walk_at "sq"); (case hl => rfl))
  | ((with_reducible refine' g_seqL ?hx ?hl ?_); (case hx => walk_at "sq"); (case hl => rfl))
  | ((with_reducible refine' g_nameV ?hm ?_); (case hm => simp))
  | (with_reducible refine' g_consV ?_)
  | (with_reducible refine' g_nilV ?_)
  | ((with_reducible refine' x_seqC ?hs ?_); (case hs => walk_at "hc"))
  | ((with_reducible refine' x_lstC ?hs ?_); (case hs => walk_at "hc"))
  | ((with_reducible refine' x_isL ?hs ?_); (case hs => walk_at "hc"))
  | ((with_reducible refine' x_size ?hs ?_); (case hs => walk_at "hl"))
  | ((with_reducible refine' x_rg1 ?hs ?_); (case hs => constructor <;> first | omega | (simp only [List.length_map]; omega)))
  | ((with_reducible refine' x_rg2 ?hs ?_); (case hs => refine ⟨?_, ?_, ?_, ?_⟩ <;> first | omega | (simp only [List.length_map]; omega)))
  | (with_reducible refine' w_addI ?_)
  | ((with_reducible refine' w_mulI ?hc ?_); (case hc => first | assumption | exact cmul_small (by constructor <;> omega) (by constructor <;> omega)))
  | (with_reducible refine' v_I0i ?_)
  | (with_reducible refine' v_I0b ?_)
  | (with_reducible refine' v_Ui ?_)
  | (with_reducible refine' w_eqI ?_)
  | (with_reducible refine' w_eqS ?_)
  | (with_reducible refine' w_eqB ?_)
  | (with_reducible refine' w_neI ?_)
  | (with_reducible refine' w_neS ?_)
  | (with_reducible refine' w_neB ?_)
  | (with_reducible refine' v_isN ?_)
  | (with_reducible refine' v_notN ?_)
  | (with_reducible refine' w_inSign ?_)
  | ((with_reducible refine' w_inS ?hs ?_); (case hs => walk_at "sq"))
  | ((with_reducible refine' w_ninS ?hs ?_); (case hs => walk_at "sq"))
  | ((with_reducible refine' w_inI ?hs ?_); (case hs => walk_at "sq"))
  | ((with_reducible refine' w_ninI ?hs ?_); (case hs => walk_at "sq"))
  | ((with_reducible refine' w_addS ?hl ?_); (case hl => walk_at "hl"))
  | ((with_reducible refine' w_catT ?hl ?_); (case hl => walk_at "hl"))
  | ((with_reducible refine' w_slS ?hl ?_); (case hl => walk_at "hl"))
  | (with_reducible refine' w_slT ?_)
  | ((with_reducible refine' w_slL ?hs (.f ?_)); (case hs => walk_at "sq"))
  | ((with_reducible refine' w_lenS ?hl ?_); (case hl => walk_at "hl"))
  | ((with_reducible refine' w_len ?hs ?_); (case hs => walk_at "sq"))
  | ((with_reducible refine' w_lenD ?hs ?_); (case hs => walk_at "dk"))
  | ((with_reducible refine' v_tupOf ?hs ?_); (case hs => walk_at "sq"))
  | ((with_reducible refine' w_list ?hs (.f ?_)); (case hs => walk_at "sq"))
  | ((with_reducible refine' v_sum ?hs ?_); (case hs => walk_at "sq"))
  | ((with_reducible refine' v_all ?hs ?_); (case hs => walk_at "sq"))
  | ((with_reducible refine' v_any ?hs ?_); (case hs => walk_at "sq"))
  | (with_reducible refine' v_max2 ?_)
  | (with_reducible refine' v_min2 ?_)
  | (with_reducible refine' v_int1 ?_)
  | (with_reducible refine' v_int1b ?_)
  | (with_reducible refine' v_abs ?_)
  | ((with_reducible refine' w_ixT ?he ?_); (case he => walk_at "he"))
  | ((with_reducible refine' w_ixL ?hs ?he ?_); (case hs => walk_at "sq"); (case he => walk_at "he"))
  | ((with_reducible refine' v_app ?hs ?hl ?_); (case hs => walk_at "hc"); (case hl => walk_at "hl"))
  | ((with_reducible refine' v_insert ?hs ?hl ?h0 ?_); (case hs => walk_at "hc"); (case hl => walk_at "hl"); (case h0 => constructor <;> omega))
  | ((with_reducible refine' x_fldV ?hi ?hc ?hn ?hl ?_); (case hi => walk_at "iv"); (case hc => walk_at "cls"); (case hn => walk_at "cls"); (case hl => walk_at "lk"))
  | ((with_reducible refine' x_methV ?hi ?hl ?_); (case hi => walk_at "iv"); (case hl => walk_at "lk"))
  | ((with_reducible refine' x_sfldC ?hs ?hc ?hn ?hl ?_); (case hs => walk_at "hc"); (case hc => walk_at "cls"); (case hn => walk_at "cls"); (case hl => first | simp | (refine Nat.lt_of_le_of_lt putFD_len ?_; simp) | (refine Nat.lt_of_le_of_lt putFD_len (Nat.lt_of_le_of_lt (Nat.succ_le_succ putFD_len) ?_); simp)))
  | ((with_reducible refine' x_inS ?hs ?_); (case hs => walk_at "dk"))
  | ((with_reducible refine' x_inI ?hs ?_); (case hs => walk_at "dk"))
  | ((with_reducible refine' x_getS ?hs ?he ?_); (case hs => walk_at "dk"); (case he => assumption))
  | ((with_reducible refine' x_getI ?hs ?he ?_); (case hs => walk_at "dk"); (case he => assumption))
  | ((with_reducible refine' x_putS ?hs ?hl ?_); (case hs => walk_at "hc"); (case hl => walk_at "hl"))
  | ((with_reducible refine' x_putI ?hs ?hl ?_); (case hs => walk_at "hc"); (case hl => walk_at "hl"))
  | ((with_reducible refine' x_isK ?hs ?_); (case hs => walk_at "dk"))
  | ((with_reducible refine' x_isDV ?hs ?_); (case hs => walk_at "dk")))
local macro_rules | `(tactic| walk_at "dd") => `(tactic| repeat' (first | walk_at "d1" | walk_at "dv" | walk_at "dx"))

/-! ### the law's source, from the heap to data -/
section
variable {K : PySem.W.Frag}
def spLaw (K : PySem.W.Frag) : Sp := fun vs H Q _ => ∃ (a : Addr) (ns : List Int), vs = [.ref a] ∧ SqL K H a (ns.map V.int) ∧ ∀ H', Q (.bl true) H'
def srcH (p la : Addr) : Hs := fun b => if b = p then some (.src la) else if b = la then some .held else none
theorem law_in {u : TS} {XE : XK} {n : Nat} {a : Addr} {ns : List Int} {H : Hp} {E : Ends} {N : List Str} (hN : N.length = n + 2)
    (hS : SqL K H a (ns.map V.int)) (q : ∀ H', E.rt (.bl true) H')
    (z : ∀ p la h, h p = some (.src la) → dS u (endD fun x _ => x = .bl true) (none :: some (.ref p) :: List.replicate n none) h) :
    tSeq (tAsg (tCall (spSource K) [] XE (tCons (tVar 0) tNil)) (gName 1)) u E (L2.start N [.ref a]) H := by
  refine ⟨.ref a, rfl, ?_⟩
  refine ⟨a, ns, rfl, hS, fun p la H' np s src => ?_⟩
  have e1 : srcH p la p = some (.src la) := if_pos rfl
  have e2 : srcH p la la = some .held := by unfold srcH; rw [if_neg src.ne, if_pos rfl]
  have len : (L2.start N [V.ref a]).length = n + 2 := by
    unfold L2.start
    simp only [List.length_append, List.length_map, List.length_replicate, List.length_cons, List.length_nil]
    omega
  have rh : RelH (srcH p la) H' := by
    refine ⟨fun b o e => ?_, fun b lb e => ?_⟩
    · unfold srcH at e
      split at e
      · cases e
        rename_i h
        subst h
        exact src
      · split at e
        · cases e
          rename_i h
          subst h
          obtain ⟨ms, pos, rest, st, k, h1, h2, _⟩ := src.ex
          exact ⟨_, h2⟩
        · cases e
    · unfold srcH at e
      split at e
      · cases e
        exact e2
      · split at e <;> cases e
  refine z p la _ e1 _ H' _ ⟨rh, ?_, fun i d e => ?_⟩ ⟨fun ρ' h' σ' H' q r s => (nomatch q), fun x h' v H' ex dx _ _ => ?_, fun _ _ _ _ q => q.elim, fun _ _ _ _ q => q.elim⟩
  · rw [List.length_set, len]
    simp
  · cases i with
    | zero => cases e
    | succ i =>
      cases i with
      | zero =>
        cases e
        exact ⟨.ref p, List.getElem?_set_self (by rw [len]; omega), .ref p⟩
      | succ i =>
        have e : (List.replicate n (none : Option D))[i]? = some (some d) := e
        rw [List.getElem?_replicate] at e
        split at e <;> cases e
  · subst ex
    cases dx
    exact q _
end

/-! ### the law -/
section
variable {P : Program} {w : World} {K : PySem.W.Frag} {mg : Str → Option Value} {base : Heap} {e : Env}
theorem sc_law : FnScope ["_law_script", "_law_src", "_law_names_here", "_law_triples", "_law_made_here", "_law_turn", "_law_kind", "_law_row", "_law_one", "_law_other", "_law_way", "_law_at", "_law_fresh", "_law_late", "_law_k", "_law_far"] ["_law_script"] (defScope s_law) :=
  ⟨rfl, rfl, rfl, by decide +kernel, rfl, by decide +kernel, by decide +kernel⟩
theorem ok_law {fl : Addr} {fd : FuncData} (F : Fun K "law" "law" s_law fl fd) (T : Txt K mg e) : FnG P w K mg base CX0 40 fl fd ["_law_script"] (spLaw K) := by
  refine okG F sc_law (fun vs H Q E h => ?_) (fun cdv A outer s H vs Q E hG hr h => ?_)
  · obtain ⟨a, ns, rfl, _⟩ := h
    rfl
  · obtain ⟨a, ns, rfl, hS, kq⟩ := h
    refine ⟨_, (pss_cons (ps_set (i := 1) sc_law.nd rfl (by first | exact Or.inl rfl | exact Or.inr rfl) (pe_callG (ok__law_source T) hG (hr.mono (by first | decide | omega)) (by rfl) T.g__law_source T.F__law_source.kp T.b__law_source .nil pass0 (pa_cons (pv 0) pa_nil)))
  (pss_cons (ps_set (i := 2) sc_law.nd rfl (by first | exact Or.inl rfl | exact Or.inr rfl) (pe_callG (ok__law_names T) hG (hr.mono (by first | decide | omega)) (by rfl) T.g__law_names T.F__law_names.kp T.b__law_names .nil pass0 (pa_cons (pv 1) (pa_cons pe_int pa_nil))))
  (pss_cons (ps_set (i := 3) sc_law.nd rfl (by first | exact Or.inl rfl | exact Or.inr rfl) (pe_callG (ok__law_signature T) hG (hr.mono (by first | decide | omega)) (by rfl) T.g__law_signature T.F__law_signature.kp T.b__law_signature .nil pass0 (pa_cons (pv 1) (pa_cons (pv 2) (pa_cons pe_int (pa_cons pe_int (pa_cons pe_int pa_nil)))))))
  (pss_cons (ps_set (i := 4) sc_law.nd rfl (by first | exact Or.inl rfl | exact Or.inr rfl) (pe_callG (ok__law_made T) hG (hr.mono (by first | decide | omega)) (by rfl) T.g__law_made T.F__law_made.kp T.b__law_made .nil pass0 (pa_cons (pv 1) (pa_cons (pv 3) pa_nil))))
  (pss_cons (ps_for PassesOwn.never rfl (pi_range1 (by rfl) T.n_range (pa_cons pe_int pa_nil)) (pg_name (i := 5) sc_law.nd rfl (by first | exact Or.inl rfl | exact Or.inr rfl))
    (pss_cons (ps_set (i := 6) sc_law.nd rfl (by first | exact Or.inl rfl | exact Or.inr rfl) (pe_callG (ok__law_of T) hG (hr.mono (by first | decide | omega)) (by rfl) T.g__law_of T.F__law_of.kp T.b__law_of .nil pass0 (pa_cons (pv 1) (pa_cons (pe_callG (ok__law_kinds T) hG (hr.mono (by first | decide | omega)) (by rfl) T.g__law_kinds T.F__law_kinds.kp T.b__law_kinds .nil pass0 (pa_cons (pv 3) pa_nil)) pa_nil))))
      (pss_cons (ps_setLc (i := 7) (own := [("_law_k", 14)]) (g := (gName 14)) (tt := tYes) rfl sc_law.nd rfl rfl (sw_true rfl rfl rfl (by decide +kernel)) (pi_range1 (by rfl) T.n_range (pa_cons pe_int pa_nil)) (blkOk_by (own := [("_law_k", 14)]) (N := ["_law_script", "_law_src", "_law_names_here", "_law_triples", "_law_made_here", "_law_turn", "_law_kind", "_law_row", "_law_one", "_law_other", "_law_way", "_law_at", "_law_fresh", "_law_late", "_law_k", "_law_far"]) (sc := defScope (top 42)) (by decide +kernel)) (fun _ _ _ _ _ => (pg_name (i := 14) sc_law.nd rfl (by first | exact Or.inl rfl | exact Or.inr rfl))) (fun _ _ _ _ _ => pts_nil) (fun _ _ _ _ _ => (pe_callG (ok__law_tree T 4) hG (hr.mono (by first | decide | omega)) (by rfl) T.g__law_tree T.F__law_tree.kp T.b__law_tree .nil pass0 (pa_cons (pv 1) (pa_cons (pv 3) (pa_cons (pv 6) (pa_cons (pe_op (op_addG (K := K) rfl) pe_int (pe_callG (ok__law_draw T) hG (hr.mono (by first | decide | omega)) (by rfl) T.g__law_draw T.F__law_draw.kp T.b__law_draw .nil pass0 (pa_cons (pv 1) (pa_cons pe_int pa_nil)))) pa_nil)))))) (by intro _; rfl))
      (pss_cons (ps_for PassesOwn.never rfl (pi_seqK (K := K) rfl (pv 7)) (pg_name (i := 8) sc_law.nd rfl (by first | exact Or.inl rfl | exact Or.inr rfl))
        (pss_one (ps_for PassesOwn.never rfl (pi_seqK (K := K) rfl (pv 7)) (pg_name (i := 9) sc_law.nd rfl (by first | exact Or.inl rfl | exact Or.inr rfl))
            (pss_cons (ps_set (i := 10) sc_law.nd rfl (by first | exact Or.inl rfl | exact Or.inr rfl) (pe_callG (ok_compare T 8) hG (hr.mono (by first | decide | omega)) (by rfl) T.g_compare T.F_compare.kp T.b_compare .nil pass0 (pa_cons (pv 4) (pa_cons (pv 8) (pa_cons (pv 9) pa_nil)))))
              (pss_cons (ps_if (PW.pt (pw_or (pt_cmpR (op_neG (K := K) rfl hr.units) (pe_callG (ok_compare T 8) hG (hr.mono (by first | decide | omega)) (by rfl) T.g_compare T.F_compare.kp T.b_compare .nil pass0 (pa_cons (pv 4) (pa_cons (pv 9) (pa_cons (pv 8) pa_nil)))) (pe_op op_sub pe_int (pv 10)) (nomark _)) (pw_or1 (pt_cmpR (op_neG (K := K) rfl hr.units) (pe_cmpR (op_eqG (K := K) rfl hr.units) (pv 10) pe_int (nomark _)) (pe_cmpR (op_eqG (K := K) rfl hr.units) (pv 8) (pv 9) (nomark _)) (nomark _)))))
                (pss_one (ps_ret pe_bl))
                pss_nil)
              (pss_cons (ps_if (PW.pt (pw_and (pt_cmpR op_lt (pe_callG (ok_size T 8) hG (hr.mono (by first | decide | omega)) (by rfl) T.g_size T.F_size.kp T.b_size .nil pass0 (pa_cons (pv 8) pa_nil)) (pe_callG (ok_size T 8) hG (hr.mono (by first | decide | omega)) (by rfl) T.g_size T.F_size.kp T.b_size .nil pass0 (pa_cons (pv 9) pa_nil)) (nomark _)) (pw_and1 (pt_cmpR (op_neG (K := K) rfl hr.units) (pv 10) (pe_op op_sub pe_int pe_int) (nomark _)))))
                (pss_one (ps_ret pe_bl))
                pss_nil)
              (pss_one (ps_if (pt_val (pe_callB (cr_anyK (K := K) rfl rfl) (by rfl) T.n_any (by decide +kernel) (pa_cons (pe_lc (own := [("_law_far", 15)]) (g := (gName 15)) (tt := tYes) rfl sc_law.nd (pi_seqK (K := K) rfl (pv 7)) (blkOk_by (own := [("_law_far", 15)]) (N := ["_law_script", "_law_src", "_law_names_here", "_law_triples", "_law_made_here", "_law_turn", "_law_kind", "_law_row", "_law_one", "_law_other", "_law_way", "_law_at", "_law_fresh", "_law_late", "_law_k", "_law_far"]) (sc := defScope (top 42)) (by decide +kernel)) (fun _ _ _ _ _ => (pg_name (i := 15) sc_law.nd rfl (by first | exact Or.inl rfl | exact Or.inr rfl))) (fun _ _ _ _ _ => pts_nil) (fun _ _ _ _ _ => (pe_and (pe_cmpR op_lt (pv 10) pe_int (nomark _)) (pe_and (pe_cmpR op_lt (pe_callG (ok_compare T 8) hG (hr.mono (by first | decide | omega)) (by rfl) T.g_compare T.F_compare.kp T.b_compare .nil pass0 (pa_cons (pv 4) (pa_cons (pv 9) (pa_cons (pv 15) pa_nil)))) pe_int (nomark _)) (pe_one (pe_cmpR op_gt (pe_callG (ok_compare T 8) hG (hr.mono (by first | decide | omega)) (by rfl) T.g_compare T.F_compare.kp T.b_compare .nil pass0 (pa_cons (pv 4) (pa_cons (pv 8) (pa_cons (pv 15) pa_nil)))) pe_int (nomark _))))))) pa_nil)))
                (pss_one (ps_ret pe_bl))
                pss_nil))))))))
      (pss_cons (ps_set (i := 8) sc_law.nd rfl (by first | exact Or.inl rfl | exact Or.inr rfl) (pe_ix (ix_seqK (K := K) rfl) (pv 7) pe_int (fun _ _ => rfl)))
      (pss_one (ps_for PassesOwn.never rfl (pi_range2 (by rfl) T.n_range (pa_cons pe_int (pa_cons (pe_callB (call_lenA (K := K) rfl) (by rfl) T.n_len (by decide +kernel) (pa_cons (pv 8) pa_nil)) pa_nil))) (pg_name (i := 11) sc_law.nd rfl (by first | exact Or.inl rfl | exact Or.inr rfl))
        (pss_cons (ps_set (i := 12) sc_law.nd rfl (by first | exact Or.inl rfl | exact Or.inr rfl) (pe_callG (ok__law_tree T 4) hG (hr.mono (by first | decide | omega)) (by rfl) T.g__law_tree T.F__law_tree.kp T.b__law_tree .nil pass0 (pa_cons (pv 1) (pa_cons (pv 3) (pa_cons (pe_callG (ok__law_kind_of T) hG (hr.mono (by first | decide | omega)) (by rfl) T.g__law_kind_of T.F__law_kind_of.kp T.b__law_kind_of .nil pass0 (pa_cons (pv 3) (pa_cons (pe_ix (ix_seqK (K := K) rfl) (pe_ix (ix_seqK (K := K) rfl) (pv 8) (pv 11) (fun _ _ => rfl)) pe_int (fun _ _ => rfl)) pa_nil))) (pa_cons pe_int pa_nil))))))
          (pss_cons (ps_set (i := 13) sc_law.nd rfl (by first | exact Or.inl rfl | exact Or.inr rfl) (pe_op (op_addG (K := K) rfl) (pe_op (op_addG (K := K) rfl) (pe_slice (sl_G (K := K) rfl) (pv 8) po_none (po_some (pv 11))) (pe_tup (pa_cons (pv 12) pa_nil))) (pe_slice (sl_G (K := K) rfl) (pv 8) (po_some (pe_op (op_addG (K := K) rfl) (pv 11) pe_int)) po_none)))
          (pss_one (ps_if (pt_cmpR (op_neG (K := K) rfl hr.units) (pe_callG (ok_compare T 8) hG (hr.mono (by first | decide | omega)) (by rfl) T.g_compare T.F_compare.kp T.b_compare .nil pass0 (pa_cons (pv 4) (pa_cons (pv 13) (pa_cons (pv 8) pa_nil)))) (pe_callG (ok_compare T 8) hG (hr.mono (by first | decide | omega)) (by rfl) T.g_compare T.F_compare.kp T.b_compare .nil pass0 (pa_cons (pv 4) (pa_cons (pv 12) (pa_cons (pe_ix (ix_seqK (K := K) rfl) (pv 8) (pv 11) (fun _ _ => rfl)) pa_nil)))) (nomark _))
            (pss_one (ps_ret pe_bl))
            pss_nil)))))))))))
  (pss_one (ps_ret pe_bl))))))), ?_⟩
    try dsimp only [cxOf, Cx.nox, Cx.wish]
    refine law_in (n := 14) rfl hS kq fun p la h ea => ?_
    clear kq hS
    walk_at "dd"
    refine ⟨p, la, 26, rfl, by decide, ea, fun zs hzl hnm => ?_⟩
    walk_at "dd"
    refine ⟨p, la, zs, 3, 5, 3, rfl, ea, hnm, by decide, by decide, by decide, by decide, by omega, by omega, fun ts good hne _ hez => .f ?_⟩
    obtain ⟨n, hn, hez⟩ := hez
    have few := good.few
    walk_at "dd"
    refine ⟨p, la, ts, rfl, ea, good, ?_⟩
    walk_at "dd"
    refine for_D [5, 6, 7, 8, 9, 10, 11, 12, 13, 14, 15] (List.range 3) natD rfl (fun i ρ h' => ρ = [none, some (.ref p), some (.lst (strsD zs)), some (.lst (ts.map trD)), some (sigD e.C_Signature ts), none, none, none, none, none, none, none, none, none, none, none] ∧ h' = h) ⟨rfl, rfl⟩ (fun _ _ _ _ _ => trivial) ?_ ?_
    · rintro i x ρ h' ei ⟨rfl, rfl⟩
      walk_at "dd"
      refine ⟨ts, rfl, few, ?_⟩
      walk_at "dd"
      refine ⟨p, la, _, _, rfl, ea, .f, ?_, ?_, fun y hy => ?_⟩
      · intro e0
        cases ts with
        | nil => exact hne rfl
        | cons t ts =>
          have hm : t.2.1 ∈ kindsOf (t :: ts) := (mem_kindsOf _ _).mpr ⟨t, List.mem_cons_self .., rfl⟩
          rw [List.map_eq_nil_iff.mp e0] at hm
          cases hm
      · rw [List.length_map]
        exact Nat.lt_of_le_of_lt good.kinds (by decide)
      · obtain ⟨k, hk, rfl⟩ := List.mem_map.mp hy
        walk_at "dd"
        refine lc_rel (List.range 4) natD tD (fun _ _ u => Ty ts k u ∧ tsz u ≤ 121 ∧ tdp u ≤ 7) rfl (by decide) .t ?_ ?_
        · intro p2 acc j z np ez
          walk_at "dd"
          refine ⟨p, la, 3, rfl, by walk_at "hc", by decide, by decide, fun j0 jz j3 => ?_⟩
          obtain ⟨j1, rfl⟩ := Int.eq_ofNat_of_zero_le jz
          walk_at "dd"
          refine ⟨p, la, ts, k, n, j1 + 1, by rw [show (1 + (j1 : Int)) = ((j1 + 1 : Nat) : Int) from by omega], by walk_at "hc", good, hn, hez, hk, by omega, fun u h1 h2 h4 => ?_⟩
          refine ⟨rfl, u, rfl, h1, Nat.le_trans h2 ?_, by omega⟩
          have : j1 = 0 ∨ j1 = 1 ∨ j1 = 2 := by omega
          rcases this with rfl | rfl | rfl <;> decide
        · intro us hul hus
          refine .f ?_
          rw [List.length_range] at hul
          have hu : ∀ u ∈ us, Ty ts k u ∧ tsz u ≤ 121 ∧ tdp u ≤ 7 := fun u h => by
            obtain ⟨i, hi⟩ := List.getElem?_of_mem h
            have hi2 := (List.getElem?_eq_some_iff.mp hi).1
            exact hus i i u (List.getElem?_range (by omega)) hi
          walk_at "dd"
          refine for_D [8, 9, 10, 15] us tD rfl (fun i ρ h2 => ρ = [none, some (.ref p), some (.lst (strsD zs)), some (.lst (ts.map trD)), some (sigD e.C_Signature ts), some (natD x), some (.str k), some (.lst (us.map tD)), none, none, none, none, none, none, none, none] ∧ h2 = h') ⟨rfl, rfl⟩ (fun _ _ _ _ _ => trivial) ?_ ?_
          · rintro i a ρ h2 ea1 ⟨rfl, rfl⟩
            obtain ⟨ta, za, da⟩ := hu a (List.mem_of_getElem? ea1)
            walk_at "dd"
            refine for_D [9, 10, 15] us tD rfl (fun i ρ h3 => ρ = [none, some (.ref p), some (.lst (strsD zs)), some (.lst (ts.map trD)), some (sigD e.C_Signature ts), some (natD x), some (.str k), some (.lst (us.map tD)), some (tD a), none, none, none, none, none, none, none] ∧ h3 = h2) ⟨rfl, rfl⟩ (fun _ _ _ _ _ => trivial) ?_ ?_
            · rintro i b ρ h3 eb1 ⟨rfl, rfl⟩
              obtain ⟨tb, zb, db⟩ := hu b (List.mem_of_getElem? eb1)
              walk_at "dd"
              refine ⟨a, b, ts, k, rfl, good, ta, tb, by omega, by omega, by decide, by omega, by omega, ?_⟩
              walk_at "dd"
              refine ⟨b, a, ts, k, rfl, good, tb, ta, by omega, by omega, by decide, by omega, by omega, ?_⟩
              walk_at "dd"
              refine ite_f (by rw [wayT_anti]; simp) ?_
              walk_at "dd"
              refine w_eqD ((tD_fine good a k ta).cmp (by omega)) ((tD_fine good b k tb).cmp (by omega)) ?_
              rw [eqv_dec good ta tb]
              walk_at "dd"
              refine ite_f (by simp) ?_
              refine d_next ?_
              refine d_seq ?_
              refine d_meet (fun ρ4 h4 => ρ4 = [none, some (.ref p), some (.lst (strsD zs)), some (.lst (ts.map trD)), some (sigD e.C_Signature ts), some (natD x), some (.str k), some (.lst (us.map tD)), some (tD a), some (tD b), some (.int (wayT ts a b)), none, none, none, none, none] ∧ h4 = h3) ?_ ?_
              · walk_at "dd"
                refine ⟨a, rfl, by omega, by omega, ?_⟩
                walk_at "dd"
                refine ⟨b, rfl, by omega, by omega, ?_⟩
                walk_at "dd"
                refine ite_b (fun hc => ?_) (fun hc => ?_)
                · have hlt : tsz a < tsz b := by
                    have := of_decide_eq_true hc
                    omega
                  walk_at "dd"
                  refine ite_f (by rw [wayT_size hlt]; simp) ?_
                  walk_at "dd"
                  exact ⟨rfl, rfl⟩
                · refine ite_f rfl ?_
                  walk_at "dd"
                  exact ⟨rfl, rfl⟩
              · rintro ρ4 h4 ⟨rfl, rfl⟩
                walk_at "dd"
                refine lc_map us tD (fun _ => .bl false) rfl (by omega) .t ?_ (.f ?_)
                · intro p3 acc3 j c np3 ec
                  obtain ⟨tc, zc, dc⟩ := hu c (List.mem_of_getElem? ec)
                  walk_at "dd"
                  refine ite_b (fun c1 => ?_) (fun c1 => ?_)
                  · walk_at "dd"
                    refine ⟨b, c, ts, k, rfl, good, tb, tc, by omega, by omega, by decide, by omega, by omega, ?_⟩
                    walk_at "dd"
                    refine ite_b (fun c2 => ?_) (fun c2 => ?_)
                    · walk_at "dd"
                      refine ⟨a, c, ts, k, rfl, good, ta, tc, by omega, by omega, by decide, by omega, by omega, ?_⟩
                      walk_at "dd"
                      rw [decide_eq_false (way_trans (of_decide_eq_true c1) (of_decide_eq_true c2))]
                    · first | rfl | exact ⟨rfl, rfl⟩
                  · first | rfl | exact ⟨rfl, rfl⟩
                · walk_at "dd"
                  refine v_any (bs := us.map fun _ => false) (by rw [List.map_map]; exact .f) ?_
                  walk_at "dd"
                  refine ite_f (all_false us) ?_
                  walk_at "dd"
                  exact ⟨rfl, rfl⟩
            · rintro ρ h3 ⟨rfl, rfl⟩
              walk_at "dd"
              exact ⟨rfl, rfl⟩
          · rintro ρ h2 ⟨rfl, rfl⟩
            walk_at "dd"
            obtain ⟨u0, e0⟩ : ∃ u0, us[0]? = some u0 := ⟨_, List.getElem?_eq_getElem (by omega)⟩
            obtain ⟨t0, z0, d0⟩ := hu u0 (List.mem_of_getElem? e0)
            refine w_ixL .f (atI_eq (n := 0) (by rw [List.getElem?_map, e0]; rfl) rfl) ?_
            cases u0 with
            | node c ch =>
              obtain ⟨t, tm, rfl, rfl, hl, hc⟩ := t0.inv
              have lp := good.parts t tm
              rw [tD_node]
              walk_at "dd"
              have lc : (D.str t.1 :: ch.map tD).length = ch.length + 1 := by rw [List.length_cons, List.length_map]
              refine ⟨_, _, rfl, ⟨by decide, by decide, by omega, by omega⟩, ?_⟩
              rw [show ((((D.str t.1 :: ch.map tD).length : Nat) : Int) - 1).toNat = ch.length from by omega, rng_one]
              refine for_D [11, 12, 13, 14, 15] (List.range ch.length) (fun i => natD (i + 1)) rfl (fun i ρ h3 => ρ = [none, some (.ref p), some (.lst (strsD zs)), some (.lst (ts.map trD)), some (sigD e.C_Signature ts), some (natD x), some (.str t.2.1), some (.lst (us.map tD)), some (.tup (.str t.1 :: ch.map tD)), none, none, none, none, none, none, none] ∧ h3 = h2) ⟨rfl, rfl⟩ (fun _ _ _ _ _ => trivial) ?_ ?_
              · rintro i x3 ρ h3 ei3 ⟨rfl, rfl⟩
                have hi : i < ch.length := by
                  have := (List.getElem?_eq_some_iff.mp ei3).1
                  rwa [List.length_range] at this
                rw [List.getElem?_range hi] at ei3
                cases ei3
                have ex := List.getElem?_eq_getElem hi
                have ep := List.getElem?_eq_getElem (show i < t.2.2.length by omega)
                have tx := hc i _ _ ep ex
                have zx := tsz_mem (List.getElem_mem hi)
                have dx := tdps_le (List.getElem_mem hi)
                generalize hx : ch[i] = xx at ex tx zx dx
                have exd : (D.str t.1 :: ch.map tD)[i + 1]? = some (tD xx) := by rw [List.getElem?_cons_succ, List.getElem?_map, ex]; rfl
                rw [tsz] at z0
                rw [tdp] at d0
                generalize hpk : t.2.2[i]'(by omega) = pk at ep tx
                have pkm := good.known t tm pk (List.mem_of_getElem? ep)
                obtain ⟨c2, ch2⟩ := xx
                obtain ⟨t2, t2m, rfl, rfl, _, _⟩ := tx.inv
                rw [tD_node] at exd
                walk_at "dd"
                refine w_ixT (atI_eq (n := 0) rfl rfl) ?_
                walk_at "dd"
                refine ⟨ts, t2, rfl, good.nd, t2m, ?_⟩
                walk_at "dd"
                refine ⟨p, la, ts, t2.2.1, n, 2, rfl, ea, good, hn, hez, pkm, by decide, fun f f1 f2 f4 => ?_⟩
                walk_at "dd"
                have lm : (ch.map tD).length = ch.length := List.length_map ..
                rw [dcut_take]
                refine w_catT (by rw [List.length_take]; simp only [List.length_cons, List.length_nil]; omega) ?_
                walk_at "dd"
                rw [show (((i + 1 : Nat) : Int) + 1) = ((i + 2 : Nat) : Int) from by omega, dcut_drop]
                refine w_catT (by rw [List.length_append, List.length_take, List.length_drop]; simp only [List.length_cons, List.length_nil]; omega) ?_
                have elate : D.tup ((D.str t.1 :: ch.map tD).take (i + 1) ++ [tD f] ++ (D.str t.1 :: ch.map tD).drop (i + 2)) = tD (.node t.1 (ch.take i ++ f :: ch.drop (i + 1))) := by
                  rw [tD_node]
                  simp [List.map_append, List.map_take, List.map_drop]
                rw [elate]
                have ech : ch.take i ++ .node t2.1 ch2 :: ch.drop (i + 1) = ch := by
                  rw [← hx]
                  simp
                have m2 : mxT 2 = 40 := by decide
                have zch : tszs ch = tszs (ch.take i) + (tsz (.node t2.1 ch2) + tszs (ch.drop (i + 1))) := by
                  rw [← tszs, ← tszs_app, ech]
                have zl : tsz (.node t.1 (ch.take i ++ f :: ch.drop (i + 1))) ≤ 300 := by
                  rw [tsz_node, tszs_app, tszs]
                  omega
                have dl : tdp (.node t.1 (ch.take i ++ f :: ch.drop (i + 1))) ≤ 8 := by
                  have := tdps_max (l := ch.take i ++ f :: ch.drop (i + 1)) (n := 6) fun u hu2 => by
                    rcases List.mem_append.mp hu2 with q | q
                    · have := tdps_le (List.mem_of_mem_take q)
                      omega
                    · rcases List.mem_cons.mp q with q | q
                      · rw [q]; exact f4
                      · have := tdps_le (List.mem_of_mem_drop q)
                        omega
                  rw [tdp]
                  omega
                have tl : Ty ts t.2.1 (.node t.1 (ch.take i ++ f :: ch.drop (i + 1))) := ty_part (x := f) tm hl hc hi fun p e => by
                  rw [ep] at e
                  cases e
                  exact f1
                have ew := wayT_part (c := t.1) good.nd f1 tx (ch.take i) (ch.drop (i + 1))
                rw [ech] at ew
                walk_at "dd"
                refine ⟨_, .node t.1 ch, ts, t.2.1, by rw [tD_node t.1 ch], good, tl, t0, dl, by rw [tdp]; omega, by decide, zl, by rw [tsz]; omega, ?_⟩
                walk_at "dd"
                refine ⟨f, .node t2.1 ch2, ts, t2.2.1, by rw [tD_node t2.1 ch2], good, f1, tx, by omega, by omega, by decide, by omega, by omega, ?_⟩
                walk_at "dd"
                rw [ew]
                refine ite_f (by simp) ?_
                walk_at "dd"
                exact ⟨rfl, rfl⟩
              · rintro ρ h3 ⟨rfl, rfl⟩
                walk_at "dd"
                exact ⟨rfl, rfl⟩
    · rintro ρ h' ⟨rfl, rfl⟩
      walk_at "dd"
      exact frz0 rfl
end
end Toy

set_option Elab.async false
set_option linter.all false
set_option maxRecDepth 100000
set_option maxHeartbeats 4000000
namespace Toy
open PySem L2 GX PySem.Spec TL
/-! ### the head -/
theorem all_mk {l : PySem.W.OpenLaw} {w : World} {K : PySem.W.Frag} {h : Heap} {mg : Str → Option Value} {fa : Addr} (X : K.In h) (G : h.Ns mainGlobals mg) (hfa : mg "law" = some (.ref fa))
    {C_Signature : Addr}
    (aC_Signature : PySem.W.nsIn K mainGlobals "Signature" = some (some (.ref C_Signature)))
    (pg_Signature : PySem.W.plainGet K C_Signature Str.empty = true) (hd_Signature : PySem.W.hasDictIn K C_Signature = true) (po_Signature : PySem.W.plainOver K C_Signature = true) (sa_Signature : PySem.W.findIn K (.ref C_Signature) "__setattr__" = some (some (.builtin "object.__setattr__"))) (mk_Signature : PySem.W.makesIn K C_Signature = true) (kc_Signature : PySem.W.keepIn K (.ref C_Signature) = true)
    (n_Signature_entries : PySem.W.findIn K (.ref C_Signature) "entries" = some none)
    (n_Signature_grouped : PySem.W.findIn K (.ref C_Signature) "grouped" = some none)
    {f0 : Addr} {od0 an0 : Option Addr} {sl0 : Array (Option Value)} {oc0 kV0 dc0 pm0 cd0 ct0 : Value}
    {f1 : Addr} {od1 an1 : Option Addr} {sl1 : Array (Option Value)} {oc1 kV1 dc1 pm1 cd1 ct1 : Value}
    {f2 : Addr} {od2 an2 : Option Addr} {sl2 : Array (Option Value)} {oc2 kV2 dc2 pm2 cd2 ct2 : Value}
    {f3 : Addr} {od3 an3 : Option Addr} {sl3 : Array (Option Value)} {oc3 kV3 dc3 pm3 cd3 ct3 : Value}
    {f4 : Addr} {od4 an4 : Option Addr} {sl4 : Array (Option Value)} {oc4 kV4 dc4 pm4 cd4 ct4 : Value}
    {f5 : Addr} {od5 an5 : Option Addr} {sl5 : Array (Option Value)} {oc5 kV5 dc5 pm5 cd5 ct5 : Value}
    {f6 : Addr} {od6 an6 : Option Addr} {sl6 : Array (Option Value)} {oc6 kV6 dc6 pm6 cd6 ct6 : Value}
    {f7 : Addr} {od7 an7 : Option Addr} {sl7 : Array (Option Value)} {oc7 kV7 dc7 pm7 cd7 ct7 : Value}
    {f8 : Addr} {od8 an8 : Option Addr} {sl8 : Array (Option Value)} {oc8 kV8 dc8 pm8 cd8 ct8 : Value}
    {f9 : Addr} {od9 an9 : Option Addr} {sl9 : Array (Option Value)} {oc9 kV9 dc9 pm9 cd9 ct9 : Value}
    {f10 : Addr} {od10 an10 : Option Addr} {sl10 : Array (Option Value)} {oc10 kV10 dc10 pm10 cd10 ct10 : Value}
    {f11 : Addr} {od11 an11 : Option Addr} {sl11 : Array (Option Value)} {oc11 kV11 dc11 pm11 cd11 ct11 : Value}
    {f12 : Addr} {od12 an12 : Option Addr} {sl12 : Array (Option Value)} {oc12 kV12 dc12 pm12 cd12 ct12 : Value}
    {f13 : Addr} {od13 an13 : Option Addr} {sl13 : Array (Option Value)} {oc13 kV13 dc13 pm13 cd13 ct13 : Value}
    {f14 : Addr} {od14 an14 : Option Addr} {sl14 : Array (Option Value)} {oc14 kV14 dc14 pm14 cd14 ct14 : Value}
    {f15 : Addr} {od15 an15 : Option Addr} {sl15 : Array (Option Value)} {oc15 kV15 dc15 pm15 cd15 ct15 : Value}
    {f16 : Addr} {od16 an16 : Option Addr} {sl16 : Array (Option Value)} {oc16 kV16 dc16 pm16 cd16 ct16 : Value}
    {f17 : Addr} {od17 an17 : Option Addr} {sl17 : Array (Option Value)} {oc17 kV17 dc17 pm17 cd17 ct17 : Value}
    {f18 : Addr} {od18 an18 : Option Addr} {sl18 : Array (Option Value)} {oc18 kV18 dc18 pm18 cd18 ct18 : Value}
    {f19 : Addr} {od19 an19 : Option Addr} {sl19 : Array (Option Value)} {oc19 kV19 dc19 pm19 cd19 ct19 : Value}
    {f20 : Addr} {od20 an20 : Option Addr} {sl20 : Array (Option Value)} {oc20 kV20 dc20 pm20 cd20 ct20 : Value}
    {f21 : Addr} {od21 an21 : Option Addr} {sl21 : Array (Option Value)} {oc21 kV21 dc21 pm21 cd21 ct21 : Value}
    {f22 : Addr} {od22 an22 : Option Addr} {sl22 : Array (Option Value)} {oc22 kV22 dc22 pm22 cd22 ct22 : Value}
    {f23 : Addr} {od23 an23 : Option Addr} {sl23 : Array (Option Value)} {oc23 kV23 dc23 pm23 cd23 ct23 : Value}
    {f24 : Addr} {od24 an24 : Option Addr} {sl24 : Array (Option Value)} {oc24 kV24 dc24 pm24 cd24 ct24 : Value}
    {f25 : Addr} {od25 an25 : Option Addr} {sl25 : Array (Option Value)} {oc25 kV25 dc25 pm25 cd25 ct25 : Value}
    {f26 : Addr} {od26 an26 : Option Addr} {sl26 : Array (Option Value)} {oc26 kV26 dc26 pm26 cd26 ct26 : Value}
    {f27 : Addr} {od27 an27 : Option Addr} {sl27 : Array (Option Value)} {oc27 kV27 dc27 pm27 cd27 ct27 : Value}
    {f28 : Addr} {od28 an28 : Option Addr} {sl28 : Array (Option Value)} {oc28 kV28 dc28 pm28 cd28 ct28 : Value}
    {f29 : Addr} {od29 an29 : Option Addr} {sl29 : Array (Option Value)} {oc29 kV29 dc29 pm29 cd29 ct29 : Value}
    {f30 : Addr} {od30 an30 : Option Addr} {sl30 : Array (Option Value)} {oc30 kV30 dc30 pm30 cd30 ct30 : Value}
    {f31 : Addr} {od31 an31 : Option Addr} {sl31 : Array (Option Value)} {oc31 kV31 dc31 pm31 cd31 ct31 : Value}
    {f32 : Addr} {od32 an32 : Option Addr} {sl32 : Array (Option Value)} {oc32 kV32 dc32 pm32 cd32 ct32 : Value}
    {u_LONGEST_NAME : Tok}
    {u_LETTERS : Tok}
    {u_MOST_KINDS : Tok}
    {u_MOST_CONSTRUCTORS : Tok}
    {u_MOST_PARTS : Tok}
    {u_MOST_NODES : Tok}
    {u_MOST_DEPTH : Tok}
    (a0 : PySem.W.nsIn K mainGlobals "_law_source" = some (some (.ref f0)))
    (l0 : K.lookup f0 = some ⟨oc0, od0, .func (PySem.W.fnOf "_law_source" "_law_source" (defArgs s__law_source) (defBody s__law_source) (defScope s__law_source) .none kV0 dc0 pm0 an0 cd0 ct0), sl0⟩) (c0 : PySem.W.codeIn K cd0 "_law_source" = true) (k0 : PySem.W.keepIn K (.ref f0) = true)
    (a1 : PySem.W.nsIn K mainGlobals "_law_draw" = some (some (.ref f1)))
    (l1 : K.lookup f1 = some ⟨oc1, od1, .func (PySem.W.fnOf "_law_draw" "_law_draw" (defArgs s__law_draw) (defBody s__law_draw) (defScope s__law_draw) .none kV1 dc1 pm1 an1 cd1 ct1), sl1⟩) (c1 : PySem.W.codeIn K cd1 "_law_draw" = true) (k1 : PySem.W.keepIn K (.ref f1) = true)
    (a2 : PySem.W.nsIn K mainGlobals "_law_of" = some (some (.ref f2)))
    (l2 : K.lookup f2 = some ⟨oc2, od2, .func (PySem.W.fnOf "_law_of" "_law_of" (defArgs s__law_of) (defBody s__law_of) (defScope s__law_of) .none kV2 dc2 pm2 an2 cd2 ct2), sl2⟩) (c2 : PySem.W.codeIn K cd2 "_law_of" = true) (k2 : PySem.W.keepIn K (.ref f2) = true)
    (a3 : PySem.W.nsIn K mainGlobals "_law_mixed" = some (some (.ref f3)))
    (l3 : K.lookup f3 = some ⟨oc3, od3, .func (PySem.W.fnOf "_law_mixed" "_law_mixed" (defArgs s__law_mixed) (defBody s__law_mixed) (defScope s__law_mixed) .none kV3 dc3 pm3 an3 cd3 ct3), sl3⟩) (c3 : PySem.W.codeIn K cd3 "_law_mixed" = true) (k3 : PySem.W.keepIn K (.ref f3) = true)
    (a4 : PySem.W.nsIn K mainGlobals "_law_names" = some (some (.ref f4)))
    (l4 : K.lookup f4 = some ⟨oc4, od4, .func (PySem.W.fnOf "_law_names" "_law_names" (defArgs s__law_names) (defBody s__law_names) (defScope s__law_names) .none kV4 dc4 pm4 an4 cd4 ct4), sl4⟩) (c4 : PySem.W.codeIn K cd4 "_law_names" = true) (k4 : PySem.W.keepIn K (.ref f4) = true)
    (a5 : PySem.W.nsIn K mainGlobals "_law_word" = some (some (.ref f5)))
    (l5 : K.lookup f5 = some ⟨oc5, od5, .func (PySem.W.fnOf "_law_word" "_law_word" (defArgs s__law_word) (defBody s__law_word) (defScope s__law_word) .none kV5 dc5 pm5 an5 cd5 ct5), sl5⟩) (c5 : PySem.W.codeIn K cd5 "_law_word" = true) (k5 : PySem.W.keepIn K (.ref f5) = true)
    (a6 : PySem.W.nsIn K mainGlobals "is_name" = some (some (.ref f6)))
    (l6 : K.lookup f6 = some ⟨oc6, od6, .func (PySem.W.fnOf "is_name" "is_name" (defArgs s_is_name) (defBody s_is_name) (defScope s_is_name) .none kV6 dc6 pm6 an6 cd6 ct6), sl6⟩) (c6 : PySem.W.codeIn K cd6 "is_name" = true) (k6 : PySem.W.keepIn K (.ref f6) = true)
    (a7 : PySem.W.nsIn K mainGlobals "need_name" = some (some (.ref f7)))
    (l7 : K.lookup f7 = some ⟨oc7, od7, .func (PySem.W.fnOf "need_name" "need_name" (defArgs s_need_name) (defBody s_need_name) (defScope s_need_name) .none kV7 dc7 pm7 an7 cd7 ct7), sl7⟩) (c7 : PySem.W.codeIn K cd7 "need_name" = true) (k7 : PySem.W.keepIn K (.ref f7) = true)
    (a8 : PySem.W.nsIn K mainGlobals "finite_kinds" = some (some (.ref f8)))
    (l8 : K.lookup f8 = some ⟨oc8, od8, .func (PySem.W.fnOf "finite_kinds" "finite_kinds" (defArgs s_finite_kinds) (defBody s_finite_kinds) (defScope s_finite_kinds) .none kV8 dc8 pm8 an8 cd8 ct8), sl8⟩) (c8 : PySem.W.codeIn K cd8 "finite_kinds" = true) (k8 : PySem.W.keepIn K (.ref f8) = true)
    (a9 : PySem.W.findIn K (.ref C_Signature) "__init__" = some (some (.ref f9))) (i9 : PySem.W.isFn K (.ref f9) = true)
    (l9 : K.lookup f9 = some ⟨oc9, od9, .func (PySem.W.fnOf "__init__" "Signature.__init__" (defArgs s_Signature___init__) (defBody s_Signature___init__) (defScope s_Signature___init__) .none kV9 dc9 pm9 an9 cd9 ct9), sl9⟩) (c9 : PySem.W.codeIn K cd9 "Signature.__init__" = true) (k9 : PySem.W.keepIn K (.ref f9) = true)
    (a10 : PySem.W.findIn K (.ref C_Signature) "declare" = some (some (.ref f10))) (i10 : PySem.W.isFn K (.ref f10) = true)
    (l10 : K.lookup f10 = some ⟨oc10, od10, .func (PySem.W.fnOf "declare" "Signature.declare" (defArgs s_Signature_declare) (defBody s_Signature_declare) (defScope s_Signature_declare) .none kV10 dc10 pm10 an10 cd10 ct10), sl10⟩) (c10 : PySem.W.codeIn K cd10 "Signature.declare" = true) (k10 : PySem.W.keepIn K (.ref f10) = true)
    (a11 : PySem.W.findIn K (.ref C_Signature) "need_bounds" = some (some (.ref f11))) (i11 : PySem.W.isFn K (.ref f11) = true)
    (l11 : K.lookup f11 = some ⟨oc11, od11, .func (PySem.W.fnOf "need_bounds" "Signature.need_bounds" (defArgs s_Signature_need_bounds) (defBody s_Signature_need_bounds) (defScope s_Signature_need_bounds) .none kV11 dc11 pm11 an11 cd11 ct11), sl11⟩) (c11 : PySem.W.codeIn K cd11 "Signature.need_bounds" = true) (k11 : PySem.W.keepIn K (.ref f11) = true)
    (a12 : PySem.W.findIn K (.ref C_Signature) "triples" = some (some (.ref f12))) (i12 : PySem.W.isFn K (.ref f12) = true)
    (l12 : K.lookup f12 = some ⟨oc12, od12, .func (PySem.W.fnOf "triples" "Signature.triples" (defArgs s_Signature_triples) (defBody s_Signature_triples) (defScope s_Signature_triples) .none kV12 dc12 pm12 an12 cd12 ct12), sl12⟩) (c12 : PySem.W.codeIn K cd12 "Signature.triples" = true) (k12 : PySem.W.keepIn K (.ref f12) = true)
    (a13 : PySem.W.findIn K (.ref C_Signature) "kinds" = some (some (.ref f13))) (i13 : PySem.W.isFn K (.ref f13) = true)
    (l13 : K.lookup f13 = some ⟨oc13, od13, .func (PySem.W.fnOf "kinds" "Signature.kinds" (defArgs s_Signature_kinds) (defBody s_Signature_kinds) (defScope s_Signature_kinds) .none kV13 dc13 pm13 an13 cd13 ct13), sl13⟩) (c13 : PySem.W.codeIn K cd13 "Signature.kinds" = true) (k13 : PySem.W.keepIn K (.ref f13) = true)
    (a14 : PySem.W.findIn K (.ref C_Signature) "need_kind" = some (some (.ref f14))) (i14 : PySem.W.isFn K (.ref f14) = true)
    (l14 : K.lookup f14 = some ⟨oc14, od14, .func (PySem.W.fnOf "need_kind" "Signature.need_kind" (defArgs s_Signature_need_kind) (defBody s_Signature_need_kind) (defScope s_Signature_need_kind) .none kV14 dc14 pm14 an14 cd14 ct14), sl14⟩) (c14 : PySem.W.codeIn K cd14 "Signature.need_kind" = true) (k14 : PySem.W.keepIn K (.ref f14) = true)
    (a15 : PySem.W.findIn K (.ref C_Signature) "has" = some (some (.ref f15))) (i15 : PySem.W.isFn K (.ref f15) = true)
    (l15 : K.lookup f15 = some ⟨oc15, od15, .func (PySem.W.fnOf "has" "Signature.has" (defArgs s_Signature_has) (defBody s_Signature_has) (defScope s_Signature_has) .none kV15 dc15 pm15 an15 cd15 ct15), sl15⟩) (c15 : PySem.W.codeIn K cd15 "Signature.has" = true) (k15 : PySem.W.keepIn K (.ref f15) = true)
    (a16 : PySem.W.findIn K (.ref C_Signature) "need_constructor" = some (some (.ref f16))) (i16 : PySem.W.isFn K (.ref f16) = true)
    (l16 : K.lookup f16 = some ⟨oc16, od16, .func (PySem.W.fnOf "need_constructor" "Signature.need_constructor" (defArgs s_Signature_need_constructor) (defBody s_Signature_need_constructor) (defScope s_Signature_need_constructor) .none kV16 dc16 pm16 an16 cd16 ct16), sl16⟩) (c16 : PySem.W.codeIn K cd16 "Signature.need_constructor" = true) (k16 : PySem.W.keepIn K (.ref f16) = true)
    (a17 : PySem.W.findIn K (.ref C_Signature) "kind_of" = some (some (.ref f17))) (i17 : PySem.W.isFn K (.ref f17) = true)
    (l17 : K.lookup f17 = some ⟨oc17, od17, .func (PySem.W.fnOf "kind_of" "Signature.kind_of" (defArgs s_Signature_kind_of) (defBody s_Signature_kind_of) (defScope s_Signature_kind_of) .none kV17 dc17 pm17 an17 cd17 ct17), sl17⟩) (c17 : PySem.W.codeIn K cd17 "Signature.kind_of" = true) (k17 : PySem.W.keepIn K (.ref f17) = true)
    (a18 : PySem.W.findIn K (.ref C_Signature) "parts" = some (some (.ref f18))) (i18 : PySem.W.isFn K (.ref f18) = true)
    (l18 : K.lookup f18 = some ⟨oc18, od18, .func (PySem.W.fnOf "parts" "Signature.parts" (defArgs s_Signature_parts) (defBody s_Signature_parts) (defScope s_Signature_parts) .none kV18 dc18 pm18 an18 cd18 ct18), sl18⟩) (c18 : PySem.W.codeIn K cd18 "Signature.parts" = true) (k18 : PySem.W.keepIn K (.ref f18) = true)
    (a19 : PySem.W.nsIn K mainGlobals "_law_signature" = some (some (.ref f19)))
    (l19 : K.lookup f19 = some ⟨oc19, od19, .func (PySem.W.fnOf "_law_signature" "_law_signature" (defArgs s__law_signature) (defBody s__law_signature) (defScope s__law_signature) .none kV19 dc19 pm19 an19 cd19 ct19), sl19⟩) (c19 : PySem.W.codeIn K cd19 "_law_signature" = true) (k19 : PySem.W.keepIn K (.ref f19) = true)
    (a20 : PySem.W.nsIn K mainGlobals "_law_made" = some (some (.ref f20)))
    (l20 : K.lookup f20 = some ⟨oc20, od20, .func (PySem.W.fnOf "_law_made" "_law_made" (defArgs s__law_made) (defBody s__law_made) (defScope s__law_made) .none kV20 dc20 pm20 an20 cd20 ct20), sl20⟩) (c20 : PySem.W.codeIn K cd20 "_law_made" = true) (k20 : PySem.W.keepIn K (.ref f20) = true)
    (a21 : PySem.W.findIn K (.ref C_Signature) "rank" = some (some (.ref f21))) (i21 : PySem.W.isFn K (.ref f21) = true)
    (l21 : K.lookup f21 = some ⟨oc21, od21, .func (PySem.W.fnOf "rank" "Signature.rank" (defArgs s_Signature_rank) (defBody s_Signature_rank) (defScope s_Signature_rank) .none kV21 dc21 pm21 an21 cd21 ct21), sl21⟩) (c21 : PySem.W.codeIn K cd21 "Signature.rank" = true) (k21 : PySem.W.keepIn K (.ref f21) = true)
    (a22 : PySem.W.nsIn K mainGlobals "kind_within" = some (some (.ref f22)))
    (l22 : K.lookup f22 = some ⟨oc22, od22, .func (PySem.W.fnOf "kind_within" "kind_within" (defArgs s_kind_within) (defBody s_kind_within) (defScope s_kind_within) .none kV22 dc22 pm22 an22 cd22 ct22), sl22⟩) (c22 : PySem.W.codeIn K cd22 "kind_within" = true) (k22 : PySem.W.keepIn K (.ref f22) = true)
    (a23 : PySem.W.nsIn K mainGlobals "size" = some (some (.ref f23)))
    (l23 : K.lookup f23 = some ⟨oc23, od23, .func (PySem.W.fnOf "size" "size" (defArgs s_size) (defBody s_size) (defScope s_size) .none kV23 dc23 pm23 an23 cd23 ct23), sl23⟩) (c23 : PySem.W.codeIn K cd23 "size" = true) (k23 : PySem.W.keepIn K (.ref f23) = true)
    (a24 : PySem.W.nsIn K mainGlobals "check_tree" = some (some (.ref f24)))
    (l24 : K.lookup f24 = some ⟨oc24, od24, .func (PySem.W.fnOf "check_tree" "check_tree" (defArgs s_check_tree) (defBody s_check_tree) (defScope s_check_tree) .none kV24 dc24 pm24 an24 cd24 ct24), sl24⟩) (c24 : PySem.W.codeIn K cd24 "check_tree" = true) (k24 : PySem.W.keepIn K (.ref f24) = true)
    (a25 : PySem.W.nsIn K mainGlobals "tree_key" = some (some (.ref f25)))
    (l25 : K.lookup f25 = some ⟨oc25, od25, .func (PySem.W.fnOf "tree_key" "tree_key" (defArgs s_tree_key) (defBody s_tree_key) (defScope s_tree_key) .none kV25 dc25 pm25 an25 cd25 ct25), sl25⟩) (c25 : PySem.W.codeIn K cd25 "tree_key" = true) (k25 : PySem.W.keepIn K (.ref f25) = true)
    (a26 : PySem.W.nsIn K mainGlobals "compare" = some (some (.ref f26)))
    (l26 : K.lookup f26 = some ⟨oc26, od26, .func (PySem.W.fnOf "compare" "compare" (defArgs s_compare) (defBody s_compare) (defScope s_compare) .none kV26 dc26 pm26 an26 cd26 ct26), sl26⟩) (c26 : PySem.W.codeIn K cd26 "compare" = true) (k26 : PySem.W.keepIn K (.ref f26) = true)
    (a27 : PySem.W.nsIn K mainGlobals "_law_kinds" = some (some (.ref f27)))
    (l27 : K.lookup f27 = some ⟨oc27, od27, .func (PySem.W.fnOf "_law_kinds" "_law_kinds" (defArgs s__law_kinds) (defBody s__law_kinds) (defScope s__law_kinds) .none kV27 dc27 pm27 an27 cd27 ct27), sl27⟩) (c27 : PySem.W.codeIn K cd27 "_law_kinds" = true) (k27 : PySem.W.keepIn K (.ref f27) = true)
    (a28 : PySem.W.nsIn K mainGlobals "_law_of_kind" = some (some (.ref f28)))
    (l28 : K.lookup f28 = some ⟨oc28, od28, .func (PySem.W.fnOf "_law_of_kind" "_law_of_kind" (defArgs s__law_of_kind) (defBody s__law_of_kind) (defScope s__law_of_kind) .none kV28 dc28 pm28 an28 cd28 ct28), sl28⟩) (c28 : PySem.W.codeIn K cd28 "_law_of_kind" = true) (k28 : PySem.W.keepIn K (.ref f28) = true)
    (a29 : PySem.W.nsIn K mainGlobals "_law_kind_of" = some (some (.ref f29)))
    (l29 : K.lookup f29 = some ⟨oc29, od29, .func (PySem.W.fnOf "_law_kind_of" "_law_kind_of" (defArgs s__law_kind_of) (defBody s__law_kind_of) (defScope s__law_kind_of) .none kV29 dc29 pm29 an29 cd29 ct29), sl29⟩) (c29 : PySem.W.codeIn K cd29 "_law_kind_of" = true) (k29 : PySem.W.keepIn K (.ref f29) = true)
    (a30 : PySem.W.nsIn K mainGlobals "_law_least" = some (some (.ref f30)))
    (l30 : K.lookup f30 = some ⟨oc30, od30, .func (PySem.W.fnOf "_law_least" "_law_least" (defArgs s__law_least) (defBody s__law_least) (defScope s__law_least) .none kV30 dc30 pm30 an30 cd30 ct30), sl30⟩) (c30 : PySem.W.codeIn K cd30 "_law_least" = true) (k30 : PySem.W.keepIn K (.ref f30) = true)
    (a31 : PySem.W.nsIn K mainGlobals "_law_tree" = some (some (.ref f31)))
    (l31 : K.lookup f31 = some ⟨oc31, od31, .func (PySem.W.fnOf "_law_tree" "_law_tree" (defArgs s__law_tree) (defBody s__law_tree) (defScope s__law_tree) .none kV31 dc31 pm31 an31 cd31 ct31), sl31⟩) (c31 : PySem.W.codeIn K cd31 "_law_tree" = true) (k31 : PySem.W.keepIn K (.ref f31) = true)
    (a32 : PySem.W.nsIn K mainGlobals "law" = some (some (.ref f32)))
    (l32 : K.lookup f32 = some ⟨oc32, od32, .func (PySem.W.fnOf "law" "law" (defArgs s_law) (defBody s_law) (defScope s_law) .none kV32 dc32 pm32 an32 cd32 ct32), sl32⟩) (c32 : PySem.W.codeIn K cd32 "law" = true) (k32 : PySem.W.keepIn K (.ref f32) = true)
    (v_LONGEST_NAME : PySem.W.nsIn K mainGlobals "LONGEST_NAME" = some (some (.int 8 u_LONGEST_NAME)))
    (v_LETTERS : PySem.W.nsIn K mainGlobals "LETTERS" = some (some (.str alphabet u_LETTERS)))
    (v_MOST_KINDS : PySem.W.nsIn K mainGlobals "MOST_KINDS" = some (some (.int 4 u_MOST_KINDS)))
    (v_MOST_CONSTRUCTORS : PySem.W.nsIn K mainGlobals "MOST_CONSTRUCTORS" = some (some (.int 6 u_MOST_CONSTRUCTORS)))
    (v_MOST_PARTS : PySem.W.nsIn K mainGlobals "MOST_PARTS" = some (some (.int 3 u_MOST_PARTS)))
    (v_MOST_NODES : PySem.W.nsIn K mainGlobals "MOST_NODES" = some (some (.int 300 u_MOST_NODES)))
    (v_MOST_DEPTH : PySem.W.nsIn K mainGlobals "MOST_DEPTH" = some (some (.int 60 u_MOST_DEPTH)))
    (z_int : PySem.W.nsIn K mainGlobals "int" = some none)
    (z_len : PySem.W.nsIn K mainGlobals "len" = some none)
    (z_list : PySem.W.nsIn K mainGlobals "list" = some none)
    (z_range : PySem.W.nsIn K mainGlobals "range" = some none)
    (z_all : PySem.W.nsIn K mainGlobals "all" = some none)
    (z_any : PySem.W.nsIn K mainGlobals "any" = some none)
    (z_tuple : PySem.W.nsIn K mainGlobals "tuple" = some none)
    (z_min : PySem.W.nsIn K mainGlobals "min" = some none)
    (z_sum : PySem.W.nsIn K mainGlobals "sum" = some none)
    (z_isinstance : PySem.W.nsIn K mainGlobals "isinstance" = some none)
    (z_str : PySem.W.nsIn K mainGlobals "str" = some none)
    (z_zip : PySem.W.nsIn K mainGlobals "zip" = some none) :
    ∃ fd : FuncData, (∀ (s : Shared) (v : Value), BindsTo s fd ⟨[v], []⟩ [("_law_script", v)]) ∧ ∀ base : Heap, K.In base → base.Ns mainGlobals mg → FnG l.prog w K mg base CX0 40 fa fd ["_law_script"] (spLaw K) := by
  have e0 := hfa.symm.trans (PySem.W.mg_of X G a32)
  cases e0
  have F0 := fun_mk (st := s__law_source) l0 c0 k0
  have b0 := F0.binds (ps := ["_law_script"]) fun _ _ _ _ _ _ us hl => match us, hl with | [_], _ => rfl
  have F1 := fun_mk (st := s__law_draw) l1 c1 k1
  have b1 := F1.binds (ps := ["_law_src", "_law_many"]) fun _ _ _ _ _ _ us hl => match us, hl with | [_, _], _ => rfl
  have F2 := fun_mk (st := s__law_of) l2 c2 k2
  have b2 := F2.binds (ps := ["_law_src", "_law_some"]) fun _ _ _ _ _ _ us hl => match us, hl with | [_, _], _ => rfl
  have F3 := fun_mk (st := s__law_mixed) l3 c3 k3
  have b3 := F3.binds (ps := ["_law_src", "_law_things"]) fun _ _ _ _ _ _ us hl => match us, hl with | [_, _], _ => rfl
  have F4 := fun_mk (st := s__law_names) l4 c4 k4
  have b4 := F4.binds (ps := ["_law_src", "_law_many"]) fun _ _ _ _ _ _ us hl => match us, hl with | [_, _], _ => rfl
  have F5 := fun_mk (st := s__law_word) l5 c5 k5
  have b5 := F5.binds (ps := ["_law_src", "_law_many"]) fun _ _ _ _ _ _ us hl => match us, hl with | [_, _], _ => rfl
  have F6 := fun_mk (st := s_is_name) l6 c6 k6
  have b6 := F6.binds (ps := ["text"]) fun _ _ _ _ _ _ us hl => match us, hl with | [_], _ => rfl
  have F7 := fun_mk (st := s_need_name) l7 c7 k7
  have b7 := F7.binds (ps := ["text"]) fun _ _ _ _ _ _ us hl => match us, hl with | [_], _ => rfl
  have F8 := fun_mk (st := s_finite_kinds) l8 c8 k8
  have b8 := F8.binds (ps := ["triples"]) fun _ _ _ _ _ _ us hl => match us, hl with | [_], _ => rfl
  have F9 := fun_mk (st := s_Signature___init__) l9 c9 k9
  have b9 := F9.binds (ps := ["self", "constructors"]) fun _ _ _ _ _ _ us hl => match us, hl with | [_, _], _ => rfl
  have F10 := fun_mk (st := s_Signature_declare) l10 c10 k10
  have b10 := F10.binds (ps := ["self", "constructor", "kind", "parts"]) fun _ _ _ _ _ _ us hl => match us, hl with | [_, _, _, _], _ => rfl
  have F11 := fun_mk (st := s_Signature_need_bounds) l11 c11 k11
  have b11 := F11.binds (ps := ["self"]) fun _ _ _ _ _ _ us hl => match us, hl with | [_], _ => rfl
  have F12 := fun_mk (st := s_Signature_triples) l12 c12 k12
  have b12 := F12.binds (ps := ["self"]) fun _ _ _ _ _ _ us hl => match us, hl with | [_], _ => rfl
  have F13 := fun_mk (st := s_Signature_kinds) l13 c13 k13
  have b13 := F13.binds (ps := ["self"]) fun _ _ _ _ _ _ us hl => match us, hl with | [_], _ => rfl
  have F14 := fun_mk (st := s_Signature_need_kind) l14 c14 k14
  have b14 := F14.binds (ps := ["self", "kind"]) fun _ _ _ _ _ _ us hl => match us, hl with | [_, _], _ => rfl
  have F15 := fun_mk (st := s_Signature_has) l15 c15 k15
  have b15 := F15.binds (ps := ["self", "constructor"]) fun _ _ _ _ _ _ us hl => match us, hl with | [_, _], _ => rfl
  have F16 := fun_mk (st := s_Signature_need_constructor) l16 c16 k16
  have b16 := F16.binds (ps := ["self", "constructor"]) fun _ _ _ _ _ _ us hl => match us, hl with | [_, _], _ => rfl
  have F17 := fun_mk (st := s_Signature_kind_of) l17 c17 k17
  have b17 := F17.binds (ps := ["self", "constructor"]) fun _ _ _ _ _ _ us hl => match us, hl with | [_, _], _ => rfl
  have F18 := fun_mk (st := s_Signature_parts) l18 c18 k18
  have b18 := F18.binds (ps := ["self", "constructor"]) fun _ _ _ _ _ _ us hl => match us, hl with | [_, _], _ => rfl
  have F19 := fun_mk (st := s__law_signature) l19 c19 k19
  have b19 := F19.binds (ps := ["_law_src", "_law_names_here", "_law_most_kinds", "_law_most_more", "_law_most_parts"]) fun _ _ _ _ _ _ us hl => match us, hl with | [_, _, _, _, _], _ => rfl
  have F20 := fun_mk (st := s__law_made) l20 c20 k20
  have b20 := F20.binds (ps := ["_law_src", "_law_triples"]) fun _ _ _ _ _ _ us hl => match us, hl with | [_, _], _ => rfl
  have F21 := fun_mk (st := s_Signature_rank) l21 c21 k21
  have b21 := F21.binds (ps := ["self", "constructor"]) fun _ _ _ _ _ _ us hl => match us, hl with | [_, _], _ => rfl
  have F22 := fun_mk (st := s_kind_within) l22 c22 k22
  have b22 := F22.binds (ps := ["signature", "tree", "depth"]) fun _ _ _ _ _ _ us hl => match us, hl with | [_, _, _], _ => rfl
  have F23 := fun_mk (st := s_size) l23 c23 k23
  have b23 := F23.binds (ps := ["tree"]) fun _ _ _ _ _ _ us hl => match us, hl with | [_], _ => rfl
  have F24 := fun_mk (st := s_check_tree) l24 c24 k24
  have b24 := F24.binds (ps := ["signature", "tree"]) fun _ _ _ _ _ _ us hl => match us, hl with | [_, _], _ => rfl
  have F25 := fun_mk (st := s_tree_key) l25 c25 k25
  have b25 := F25.binds (ps := ["signature", "tree"]) fun _ _ _ _ _ _ us hl => match us, hl with | [_, _], _ => rfl
  have F26 := fun_mk (st := s_compare) l26 c26 k26
  have b26 := F26.binds (ps := ["signature", "one", "other"]) fun _ _ _ _ _ _ us hl => match us, hl with | [_, _, _], _ => rfl
  have F27 := fun_mk (st := s__law_kinds) l27 c27 k27
  have b27 := F27.binds (ps := ["_law_triples"]) fun _ _ _ _ _ _ us hl => match us, hl with | [_], _ => rfl
  have F28 := fun_mk (st := s__law_of_kind) l28 c28 k28
  have b28 := F28.binds (ps := ["_law_triples", "_law_kind"]) fun _ _ _ _ _ _ us hl => match us, hl with | [_, _], _ => rfl
  have F29 := fun_mk (st := s__law_kind_of) l29 c29 k29
  have b29 := F29.binds (ps := ["_law_triples", "_law_constructor"]) fun _ _ _ _ _ _ us hl => match us, hl with | [_, _], _ => rfl
  have F30 := fun_mk (st := s__law_least) l30 c30 k30
  have b30 := F30.binds (ps := ["_law_triples"]) fun _ _ _ _ _ _ us hl => match us, hl with | [_], _ => rfl
  have F31 := fun_mk (st := s__law_tree) l31 c31 k31
  have b31 := F31.binds (ps := ["_law_src", "_law_triples", "_law_kind", "_law_depth"]) fun _ _ _ _ _ _ us hl => match us, hl with | [_, _, _, _], _ => rfl
  have F32 := fun_mk (st := s_law) l32 c32 k32
  have T : Txt K mg { f__law_source := f0, d__law_source := _, f__law_draw := f1, d__law_draw := _, f__law_of := f2, d__law_of := _, f__law_mixed := f3, d__law_mixed := _, f__law_names := f4, d__law_names := _, f__law_word := f5, d__law_word := _, f_is_name := f6, d_is_name := _, f_need_name := f7, d_need_name := _, f_finite_kinds := f8, d_finite_kinds := _, f_Signature___init__ := f9, d_Signature___init__ := _, f_Signature_declare := f10, d_Signature_declare := _, f_Signature_need_bounds := f11, d_Signature_need_bounds := _, f_Signature_triples := f12, d_Signature_triples := _, f_Signature_kinds := f13, d_Signature_kinds := _, f_Signature_need_kind := f14, d_Signature_need_kind := _, f_Signature_has := f15, d_Signature_has := _, f_Signature_need_constructor := f16, d_Signature_need_constructor := _, f_Signature_kind_of := f17, d_Signature_kind_of := _, f_Signature_parts := f18, d_Signature_parts := _, f__law_signature := f19, d__law_signature := _, f__law_made := f20, d__law_made := _, f_Signature_rank := f21, d_Signature_rank := _, f_kind_within := f22, d_kind_within := _, f_size := f23, d_size := _, f_check_tree := f24, d_check_tree := _, f_tree_key := f25, d_tree_key := _, f_compare := f26, d_compare := _, f__law_kinds := f27, d__law_kinds := _, f__law_of_kind := f28, d__law_of_kind := _, f__law_kind_of := f29, d__law_kind_of := _, f__law_least := f30, d__law_least := _, f__law_tree := f31, d__law_tree := _, C_Signature := C_Signature } := {
    F__law_source := F0,
    b__law_source := b0,
    g__law_source := PySem.W.mg_of X G a0,
    F__law_draw := F1,
    b__law_draw := b1,
    g__law_draw := PySem.W.mg_of X G a1,
    F__law_of := F2,
    b__law_of := b2,
    g__law_of := PySem.W.mg_of X G a2,
    F__law_mixed := F3,
    b__law_mixed := b3,
    g__law_mixed := PySem.W.mg_of X G a3,
    F__law_names := F4,
    b__law_names := b4,
    g__law_names := PySem.W.mg_of X G a4,
    F__law_word := F5,
    b__law_word := b5,
    g__law_word := PySem.W.mg_of X G a5,
    F_is_name := F6,
    b_is_name := b6,
    g_is_name := PySem.W.mg_of X G a6,
    F_need_name := F7,
    b_need_name := b7,
    g_need_name := PySem.W.mg_of X G a7,
    F_finite_kinds := F8,
    b_finite_kinds := b8,
    g_finite_kinds := PySem.W.mg_of X G a8,
    F_Signature___init__ := F9,
    b_Signature___init__ := b9,
    F_Signature_declare := F10,
    b_Signature_declare := b10,
    m_Signature_declare := ⟨a10, i10, k10⟩,
    F_Signature_need_bounds := F11,
    b_Signature_need_bounds := b11,
    m_Signature_need_bounds := ⟨a11, i11, k11⟩,
    F_Signature_triples := F12,
    b_Signature_triples := b12,
    m_Signature_triples := ⟨a12, i12, k12⟩,
    F_Signature_kinds := F13,
    b_Signature_kinds := b13,
    m_Signature_kinds := ⟨a13, i13, k13⟩,
    F_Signature_need_kind := F14,
    b_Signature_need_kind := b14,
    m_Signature_need_kind := ⟨a14, i14, k14⟩,
    F_Signature_has := F15,
    b_Signature_has := b15,
    m_Signature_has := ⟨a15, i15, k15⟩,
    F_Signature_need_constructor := F16,
    b_Signature_need_constructor := b16,
    m_Signature_need_constructor := ⟨a16, i16, k16⟩,
    F_Signature_kind_of := F17,
    b_Signature_kind_of := b17,
    m_Signature_kind_of := ⟨a17, i17, k17⟩,
    F_Signature_parts := F18,
    b_Signature_parts := b18,
    m_Signature_parts := ⟨a18, i18, k18⟩,
    F__law_signature := F19,
    b__law_signature := b19,
    g__law_signature := PySem.W.mg_of X G a19,
    F__law_made := F20,
    b__law_made := b20,
    g__law_made := PySem.W.mg_of X G a20,
    F_Signature_rank := F21,
    b_Signature_rank := b21,
    m_Signature_rank := ⟨a21, i21, k21⟩,
    F_kind_within := F22,
    b_kind_within := b22,
    g_kind_within := PySem.W.mg_of X G a22,
    F_size := F23,
    b_size := b23,
    g_size := PySem.W.mg_of X G a23,
    F_check_tree := F24,
    b_check_tree := b24,
    g_check_tree := PySem.W.mg_of X G a24,
    F_tree_key := F25,
    b_tree_key := b25,
    g_tree_key := PySem.W.mg_of X G a25,
    F_compare := F26,
    b_compare := b26,
    g_compare := PySem.W.mg_of X G a26,
    F__law_kinds := F27,
    b__law_kinds := b27,
    g__law_kinds := PySem.W.mg_of X G a27,
    F__law_of_kind := F28,
    b__law_of_kind := b28,
    g__law_of_kind := PySem.W.mg_of X G a28,
    F__law_kind_of := F29,
    b__law_kind_of := b29,
    g__law_kind_of := PySem.W.mg_of X G a29,
    F__law_least := F30,
    b__law_least := b30,
    g__law_least := PySem.W.mg_of X G a30,
    F__law_tree := F31,
    b__law_tree := b31,
    g__law_tree := PySem.W.mg_of X G a31,
    g_Signature := PySem.W.mg_of X G aC_Signature,
    c_Signature := ⟨pg_Signature, hd_Signature, po_Signature, sa_Signature⟩,
    M_Signature := ⟨mk_Signature, a9, i9, kc_Signature⟩,
    a_Signature_entries := n_Signature_entries,
    a_Signature_grouped := n_Signature_grouped,
    g_LONGEST_NAME := ⟨_, PySem.W.mg_of X G v_LONGEST_NAME⟩,
    g_LETTERS := ⟨_, PySem.W.mg_of X G v_LETTERS⟩,
    g_MOST_KINDS := ⟨_, PySem.W.mg_of X G v_MOST_KINDS⟩,
    g_MOST_CONSTRUCTORS := ⟨_, PySem.W.mg_of X G v_MOST_CONSTRUCTORS⟩,
    g_MOST_PARTS := ⟨_, PySem.W.mg_of X G v_MOST_PARTS⟩,
    g_MOST_NODES := ⟨_, PySem.W.mg_of X G v_MOST_NODES⟩,
    g_MOST_DEPTH := ⟨_, PySem.W.mg_of X G v_MOST_DEPTH⟩,
    n_int := PySem.W.mg_none_of X G z_int,
    n_len := PySem.W.mg_none_of X G z_len,
    n_list := PySem.W.mg_none_of X G z_list,
    n_range := PySem.W.mg_none_of X G z_range,
    n_all := PySem.W.mg_none_of X G z_all,
    n_any := PySem.W.mg_none_of X G z_any,
    n_tuple := PySem.W.mg_none_of X G z_tuple,
    n_min := PySem.W.mg_none_of X G z_min,
    n_sum := PySem.W.mg_none_of X G z_sum,
    n_isinstance := PySem.W.mg_none_of X G z_isinstance,
    n_str := PySem.W.mg_none_of X G z_str,
    n_zip := PySem.W.mg_none_of X G z_zip }
  exact ⟨_, fun s v => .of_eq rfl, fun base _ _ => ok_law F32 T⟩
theorem walk {l : PySem.W.OpenLaw} {q : Program} {loose : List Str} {XP : (Str → Option Value) → Heap → Prop} {YP : World → Heap → Prop} {d : DefRec} {K : Params → PySem.W.Frag} (hn : l.most = some 63)
    (hdf : d.params.defaults = []) (hY : ∀ (w : World) (h : Heap), YP w h → (K w.params).In h)
    (F : ∀ (w : World) (mg : Str → Option Value) (fa : Addr) (h : Heap), (K w.params).In h → h.Ns mainGlobals mg → mg d.name = some (.ref fa) →
      ∃ fd : FuncData, (∀ (s : Shared) (u : Value), BindsTo s fd ⟨[u], []⟩ [("_law_script", u)]) ∧ ∀ base : Heap, (K w.params).In base → base.Ns mainGlobals mg →
        FnG l.prog w (K w.params) mg base CX0 40 fa fd ["_law_script"] (spLaw (K w.params))) :
    PySem.W.WalkO q loose XP YP l.row.toRowW d [] (fun f vs => PySem.call f vs) :=
  walk_ofG (n := 63) (k := 40) (x := "_law_script") (CX := fun _ => CX0) (sp := fun w => spLaw (K w.params)) hn (by decide) hdf ⟨rfl, by decide, by decide⟩ hY F
    (fun _ _ a ns hl _ hS => ⟨a, ns, rfl, hS, fun _ => rfl⟩) fun _ _ _ _ _ z => z
end Toy
open PySem PySem.W PyProof.Rows
set_option maxRecDepth 100000 in
set_option maxHeartbeats 0 in
theorem PySem.Challenge.cw_fewvouch_k08_whole_the_order_of_trees_holds : PySem.Challenge.rw_fewvouch_k08_whole_the_order_of_trees.Holds := by
  w_on; o_law; k_head; (case hw => w_witness2)
  k_fill
  refine Toy.walk (l := PySem.Challenge.rw_fewvouch_k08_whole_the_order_of_trees) rfl rfl (fun w h Y => PySem.W.kIn_of Y) ?F
  case F =>
    intro w mg fa h KX G hmg
    refine' Toy.all_mk KX G hmg ?aC_Signature ?pg_Signature ?hd_Signature ?po_Signature ?sa_Signature ?mk_Signature ?kc_Signature ?n_Signature_entries ?n_Signature_grouped ?a0 ?l0 ?c0 ?k0 ?a1 ?l1 ?c1 ?k1 ?a2 ?l2 ?c2 ?k2 ?a3 ?l3 ?c3 ?k3 ?a4 ?l4 ?c4 ?k4 ?a5 ?l5 ?c5 ?k5 ?a6 ?l6 ?c6 ?k6 ?a7 ?l7 ?c7 ?k7 ?a8 ?l8 ?c8 ?k8 ?a9 ?i9 ?l9 ?c9 ?k9 ?a10 ?i10 ?l10 ?c10 ?k10 ?a11 ?i11 ?l11 ?c11 ?k11 ?a12 ?i12 ?l12 ?c12 ?k12 ?a13 ?i13 ?l13 ?c13 ?k13 ?a14 ?i14 ?l14 ?c14 ?k14 ?a15 ?i15 ?l15 ?c15 ?k15 ?a16 ?i16 ?l16 ?c16 ?k16 ?a17 ?i17 ?l17 ?c17 ?k17 ?a18 ?i18 ?l18 ?c18 ?k18 ?a19 ?l19 ?c19 ?k19 ?a20 ?l20 ?c20 ?k20 ?a21 ?i21 ?l21 ?c21 ?k21 ?a22 ?l22 ?c22 ?k22 ?a23 ?l23 ?c23 ?k23 ?a24 ?l24 ?c24 ?k24 ?a25 ?l25 ?c25 ?k25 ?a26 ?l26 ?c26 ?k26 ?a27 ?l27 ?c27 ?k27 ?a28 ?l28 ?c28 ?k28 ?a29 ?l29 ?c29 ?k29 ?a30 ?l30 ?c30 ?k30 ?a31 ?l31 ?c31 ?k31 ?a32 ?l32 ?c32 ?k32 ?v_LONGEST_NAME ?v_LETTERS ?v_MOST_KINDS ?v_MOST_CONSTRUCTORS ?v_MOST_PARTS ?v_MOST_NODES ?v_MOST_DEPTH ?z_int ?z_len ?z_list ?z_range ?z_all ?z_any ?z_tuple ?z_min ?z_sum ?z_isinstance ?z_str ?z_zip
    (case aC_Signature => k_is)
    (case pg_Signature => k_is)
    (case hd_Signature => k_is)
    (case po_Signature => k_is)
    (case sa_Signature => k_is)
    (case mk_Signature => k_is)
    (case kc_Signature => k_is)
    (case n_Signature_entries => k_is)
    (case n_Signature_grouped => k_is)
    (case a0 => k_is)
    (case l0 => k_is)
    (case c0 => k_is)
    (case k0 => k_is)
    (case a1 => k_is)
    (case l1 => k_is)
    (case c1 => k_is)
    (case k1 => k_is)
    (case a2 => k_is)
    (case l2 => k_is)
    (case c2 => k_is)
    (case k2 => k_is)
    (case a3 => k_is)
    (case l3 => k_is)
    (case c3 => k_is)
    (case k3 => k_is)
    (case a4 => k_is)
    (case l4 => k_is)
    (case c4 => k_is)
    (case k4 => k_is)
    (case a5 => k_is)
    (case l5 => k_is)
    (case c5 => k_is)
    (case k5 => k_is)
    (case a6 => k_is)
    (case l6 => k_is)
    (case c6 => k_is)
    (case k6 => k_is)
    (case a7 => k_is)
    (case l7 => k_is)
    (case c7 => k_is)
    (case k7 => k_is)
    (case a8 => k_is)
    (case l8 => k_is)
    (case c8 => k_is)
    (case k8 => k_is)
    (case a9 => k_is)
    (case i9 => k_is)
    (case l9 => k_is)
    (case c9 => k_is)
    (case k9 => k_is)
    (case a10 => k_is)
    (case i10 => k_is)
    (case l10 => k_is)
    (case c10 => k_is)
    (case k10 => k_is)
    (case a11 => k_is)
    (case i11 => k_is)
    (case l11 => k_is)
    (case c11 => k_is)
    (case k11 => k_is)
    (case a12 => k_is)
    (case i12 => k_is)
    (case l12 => k_is)
    (case c12 => k_is)
    (case k12 => k_is)
    (case a13 => k_is)
    (case i13 => k_is)
    (case l13 => k_is)
    (case c13 => k_is)
    (case k13 => k_is)
    (case a14 => k_is)
    (case i14 => k_is)
    (case l14 => k_is)
    (case c14 => k_is)
    (case k14 => k_is)
    (case a15 => k_is)
    (case i15 => k_is)
    (case l15 => k_is)
    (case c15 => k_is)
    (case k15 => k_is)
    (case a16 => k_is)
    (case i16 => k_is)
    (case l16 => k_is)
    (case c16 => k_is)
    (case k16 => k_is)
    (case a17 => k_is)
    (case i17 => k_is)
    (case l17 => k_is)
    (case c17 => k_is)
    (case k17 => k_is)
    (case a18 => k_is)
    (case i18 => k_is)
    (case l18 => k_is)
    (case c18 => k_is)
    (case k18 => k_is)
    (case a19 => k_is)
    (case l19 => k_is)
    (case c19 => k_is)
    (case k19 => k_is)
    (case a20 => k_is)
    (case l20 => k_is)
    (case c20 => k_is)
    (case k20 => k_is)
    (case a21 => k_is)
    (case i21 => k_is)
    (case l21 => k_is)
    (case c21 => k_is)
    (case k21 => k_is)
    (case a22 => k_is)
    (case l22 => k_is)
    (case c22 => k_is)
    (case k22 => k_is)
    (case a23 => k_is)
    (case l23 => k_is)
    (case c23 => k_is)
    (case k23 => k_is)
    (case a24 => k_is)
    (case l24 => k_is)
    (case c24 => k_is)
    (case k24 => k_is)
    (case a25 => k_is)
    (case l25 => k_is)
    (case c25 => k_is)
    (case k25 => k_is)
    (case a26 => k_is)
    (case l26 => k_is)
    (case c26 => k_is)
    (case k26 => k_is)
    (case a27 => k_is)
    (case l27 => k_is)
    (case c27 => k_is)
    (case k27 => k_is)
    (case a28 => k_is)
    (case l28 => k_is)
    (case c28 => k_is)
    (case k28 => k_is)
    (case a29 => k_is)
    (case l29 => k_is)
    (case c29 => k_is)
    (case k29 => k_is)
    (case a30 => k_is)
    (case l30 => k_is)
    (case c30 => k_is)
    (case k30 => k_is)
    (case a31 => k_is)
    (case l31 => k_is)
    (case c31 => k_is)
    (case k31 => k_is)
    (case a32 => k_is)
    (case l32 => k_is)
    (case c32 => k_is)
    (case k32 => k_is)
    (case v_LONGEST_NAME => k_is)
    (case v_LETTERS => k_is)
    (case v_MOST_KINDS => k_is)
    (case v_MOST_CONSTRUCTORS => k_is)
    (case v_MOST_PARTS => k_is)
    (case v_MOST_NODES => k_is)
    (case v_MOST_DEPTH => k_is)
    (case z_int => k_is)
    (case z_len => k_is)
    (case z_list => k_is)
    (case z_range => k_is)
    (case z_all => k_is)
    (case z_any => k_is)
    (case z_tuple => k_is)
    (case z_min => k_is)
    (case z_sum => k_is)
    (case z_isinstance => k_is)
    (case z_str => k_is)
    (case z_zip => k_is)
#print axioms PySem.Challenge.cw_fewvouch_k08_whole_the_order_of_trees_holds
