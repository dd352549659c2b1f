import PyProof.Rows.All
import Wide.All
import OpenK.AllK
import Wide.FinOn
import HandS.ForMost
import HandS.Wide
import HandS.WideMore
import HandS.Evl
import HandS.Walk
import PyProof.ReprRoads
import HandS.Conv
import HandS.SetKeys
import HandS.More
import HandS.ForExc
import HandS.ExcInit
import HandS.ExcField
import HandS.Lambda
import KE.KExcInit
import KE.KTryMore
import KE.KDflt
import HandS.HotCalls
import HandS.TupAny
import HandS.TupMul
import HandS.SortInts
import HandS.Deep
import HandS.Zip
import HandS.Rev
import HandS.TryOnly
import HandS.SetFor
import HandS.Strs
import KE.DataMinMax
import ObjForm.LawKit
import HandS.DictComp
import HandS.SortKw
import PyProof.Rows.ReprShort
import HandS.Style
import KE.KUnpackStar
import HandS.IsInst
import KE.DataCmp
import KE.GoesZip
import KE.GoesMore
import HandS.EndTab
import PyProof.ReprBulk
import PySem.Challenge.RW_fewvouch_k14_null_rows_told
set_option Elab.async false
set_option linter.all false
set_option maxRecDepth 100000
set_option maxHeartbeats 4000000
namespace GX
open PySem L2 PySem.Spec PyProof.Rows

/-! ### promises where no repr is under way -/
structure FnG (P : Program) (w : World) (K : PySem.W.Frag) (mg : Str → Option Value)
    (base : Heap) (CX : CXT) (k : Nat) (f : Addr) (fd : FuncData)
    (ps : List Str) (sp : Sp) : Prop where
  len : ∀ vs H Q E, sp vs H Q E → vs.length = ps.length
  run : ∀ (A : Around) (outer : List Env) (s : Shared) (H : Hp) (args : Args)
      (us : List Value) (vs : List V) (Q : VK) (E : XK), A.guards = some [] → Room k A →
      Env0 P w K mg base A outer s H → BindsTo s fd args (ps.zip us) → Vals vs us →
      sp vs H Q E → codeAny (model P w) A (.call (.ref f) args) (CR CX outer P w H s Q E) s

theorem FnG.mono {P : Program} {w : World} {K : PySem.W.Frag} {mg : Str → Option Value}
    {base : Heap} {CX : CXT} {j k : Nat} {f : Addr} {fd : FuncData} {ps : List Str} {sp : Sp}
    (F : FnG P w K mg base CX j f fd ps sp) (h : j ≤ k) : FnG P w K mg base CX k f fd ps sp where
  len := F.len
  run := fun A outer s H args us vs Q E g hr =>
    F.run A outer s H args us vs Q E g (hr.mono h)

section
variable {P : Program} {w : World} {K : PySem.W.Frag} {mg : Str → Option Value} {base : Heap}

theorem fnG_of {CX : CXT} {k : Nat} {f : Addr} {name qual : Str} {params : Arguments}
    {body : List Stmt} {scope : Scope} {dV kV doc pm cdv ct oc : Value} {an od : Option Addr}
    {osl : Array (Option Value)} {N ps : List Str} {sp : Sp}
    (lk : K.lookup f = some ⟨oc, od, .func
      (PySem.W.fnOf name qual params body scope dV kV doc pm an cdv ct), osl⟩)
    (hcd : PySem.W.codeIn K cdv qual = true) (S : FnScope N ps scope)
    (len : ∀ vs H Q E, sp vs H Q E → vs.length = ps.length)
    (hbody : ∀ (A : Around) (outer : List Env) (s : Shared) (H : Hp) (vs : List V)
      (Q : VK) (E : XK), A.guards = some [] →
      Room k (A.deeper (envOfC qual scope s.heap.objs.size f cdv)) → sp vs H Q E →
      ∃ t, PSs (cxOf CX P w K mg base N qual scope f cdv A outer s H E) body t ∧
        t { nx := fun _ H' => Q .non H', rt := Q } (start N vs) H) :
    FnG P w K mg base CX (k + 1) f
      (PySem.W.fnOf name qual params body scope dV kV doc pm an cdv ct) ps sp := by
  refine ⟨len, ?_⟩
  intro A outer s H args us vs Q E hg hr e0 hb r hsp
  have hl := len vs H Q E hsp
  have KX : K.In s.heap := e0.mod.kin.keeps (fun b o e => (e0.bs b o e).1)
  have lim := e0.mod.nolimit.keeps (fun b o e => (e0.bs b o e).1)
  have hkind : ∀ y ∈ ps.zip us, scope.names.lookup y.1 = some .local ∨
      (scope.names.lookup y.1 = some .cell ∧
        ((cellsFrom (s.heap.objs.size + 1) scope.names []).lookup y.1).isSome = true) := by
    rintro ⟨n, v⟩ hy
    rcases S.par n (List.of_mem_zip hy).1 with q | q
    · exact Or.inl q
    · exact Or.inr ⟨q, PySem.W.cellsFrom_some _ _ _ (Or.inl q)⟩
  refine codeAny_call_function hr.depth (KX _ _ lk) rfl S.co S.gen rfl
    (PySem.W.codeRec_of KX hcd) (hb _ _ _ _ ?_)
  refine wpAny_newFunctionEnv_cells S.kind hkind ?_
  intro env he s1 x
  subst he
  refine ⟨lim.keeps x.toInCall.keep, codeAny_func ?_⟩
  obtain ⟨t, ht, hq⟩ := hbody A outer s H vs Q E hg (hr.deeper _) hsp
  have I : Inv (cxOf CX P w K mg base N qual scope f cdv A outer s H E) []
      (start N vs) H s1 := inv_start S hr.hd e0 hl r x
  refine wpAny_mono (ht.run [] s1 (start N vs) H _ I hq) ?_ (fun e s' hs => hs)
  intro fl s' hs
  have fin : ∀ {σ' : L2.St} {H' : Hp} {v : V} {u : Value},
      Inv (cxOf CX P w K mg base N qual scope f cdv A outer s H E) [] σ' H' s' →
      RelV v u → Q v H' → CE outer P w H s Q u s' := by
    intro σ' H' v u J rv q
    exact ⟨v, H', J.os, J.bare, J.base, J.hok, rv, q⟩
  cases fl with
  | ret u =>
    obtain ⟨v, σ', H', J, rv, q⟩ := hs
    exact fin J rv q
  | next =>
    obtain ⟨σ', H', J, q⟩ := hs
    exact fin (v := V.non) (u := Value.none) J rfl q
  | brk => exact hs.elim fun _ z => z.elim fun _ z => z.2.elim
  | cont => exact hs.elim fun _ z => z.elim fun _ z => z.2.elim

/-- a def of the text that lets nothing out -/
theorem okG {x qual : Str} {st : Stmt} {f : Addr} {fd : FuncData} {N ps : List Str} {k : Nat}
    {sp : Sp} (F : Fun K x qual st f fd) (S : FnScope N ps (defScope st))
    (len : ∀ vs H Q E, sp vs H Q E → vs.length = ps.length)
    (hbody : ∀ (cdv : Value) (A : Around) (outer : List Env) (s : Shared) (H : Hp)
      (vs : List V) (Q : VK) (E : XK), A.guards = some [] →
      Room k (A.deeper (envOfC qual (defScope st) s.heap.objs.size f cdv)) → sp vs H Q E →
      ∃ t, PSs (cxOf CX0 P w K mg base N qual (defScope st) f cdv A outer s H E).nox
        (defBody st) t ∧ t { nx := fun _ H' => Q .non H', rt := Q } (start N vs) H) :
    FnG P w K mg base CX0 (k + 1) f fd ps sp := by
  obtain ⟨oc, od, kV, doc, pm, an, cdv, ct, osl, rfl, lk, hcd⟩ := F.ex
  refine fnG_of lk hcd S len ?_
  intro A outer s H vs Q E hg hr hsp
  obtain ⟨t, h, q⟩ := hbody cdv A outer s H vs Q E hg hr hsp
  exact ⟨t, h.nox, q⟩
end

section
variable {X : Cx} {CX : CXT} {k : Nat} {f C : Addr} {fd : FuncData} {ps : List Str} {sp : Sp}
  {dvs : List V} {ds : List Value} {E : XK} {x m : Str} {p pos apos : Pos} {e o : Expr}
  {es : List Expr} {ta : TE} {t : TA}

theorem run_fnG {pins : List (Addr × Obj)} {σ : L2.St} {H : Hp} {s : Shared} {Q : VK}
    {us : List Value} {vs : List V} (F : FnG X.prog X.w X.K X.mg X.base CX k f fd ps sp)
    (hg : X.A.guards = some []) (hr : Room k X.A) (hb : Binds X.K fd ps ds)
    (hd : Vals dvs ds) (hx : Passes CX X E) (I : Inv X pins σ H s) (r : Vals vs us)
    (h : sp (vs ++ dvs) H Q E) :
    wpAny (model X.prog X.w) X.A (call (.ref f) us) (EP X pins σ Q) X.xe s := by
  have r2 := r.append hd
  have hl : (us ++ ds).length = ps.length := r2.length ▸ F.len _ _ _ _ h
  have z := F.run X.A X.stack s H ⟨us, []⟩ (us ++ ds) (vs ++ dvs) Q E hg hr I.env0
    (hb s us I.kIn hl) r2 h
  refine wpAny_call (codeAny_mono z ?_)
  intro r s' hq
  match r, hq with
  | .error e, hq => exact hx pins σ H s e s' I hq
  | .ok (.ret u), hq => exact I.after hq

theorem pe_callG (F : FnG X.prog X.w X.K X.mg X.base CX k f fd ps sp)
    (hG : X.A.guards = some []) (hr : Room k X.A) (hg : Gl X x) (hm : X.mg x = some (.ref f))
    (hk : PySem.W.keepIn X.K (.ref f) = true) (hb : Binds X.K fd ps ds) (hd : Vals dvs ds)
    (hx : Passes CX X E) (ha : PA X (e :: es) t)
    (hdb : (x == ("__debug__" : Str)) = false := by decide)
    (he : starEach (e :: es) X.env = (false, eval e X.env) :: starEach es X.env := by rfl)
    (hpl : (backTo pos (starEach es X.env)).any (·.1) = false := by rfl) :
    PE X (.Call (.Name x p) (e :: es) [] pos) (tCall sp dvs E t) := by
  constructor
  intro pins s σ H Q I h
  refine wpAny_Call_Name_kw (ld_glob I hg hm ?_ hdb)
  refine PySem.W.callWith_K (h₀ := X.base) I.ok.mod.kin hk ?_ he hpl
  refine thn (ha.run pos pins s σ H _ I h) ?_
  rintro us s1 ⟨vs, H1, I1, r, q⟩
  exact ⟨I1.kIn, run_fnG F hG hr hb hd hx I1 r q⟩

theorem pe_call0G (F : FnG X.prog X.w X.K X.mg X.base CX k f fd ps sp)
    (hG : X.A.guards = some []) (hr : Room k X.A) (hg : Gl X x) (hm : X.mg x = some (.ref f))
    (hk : PySem.W.keepIn X.K (.ref f) = true) (hb : Binds X.K fd ps ds) (hd : Vals dvs ds)
    (hx : Passes CX X E) (hdb : (x == ("__debug__" : Str)) = false := by decide) :
    PE X (.Call (.Name x p) [] [] pos) (tCall sp dvs E tNil) := by
  constructor
  intro pins s σ H Q I h
  refine wpAny_Call_Name_kw (ld_glob I hg hm ?_ hdb)
  exact PySem.W.callWith_K0 I.kIn hk (run_fnG (us := []) F hG hr hb hd hx I .nil h)
end

/-! ### repr of data -/
theorem text_room : ∀ n : Nat, n + 64 ≤ 16777216 → n ≤ sizeLine := by
  intro n h
  rw [sizeLine_eq]
  omega
/-- repr(x), x data without dicts -/
def rRepr (K : PySem.W.Frag) : List V → Hp → VK → Prop := fun xs H Q =>
  ∃ (x : V) (d : PyData), xs = [x] ∧ Dp K H x d ∧ d.showable = true ∧ d.hasDict = false ∧
    d.depth ≤ 150 ∧ d.shown.length + 64 ≤ 16777216 ∧ Q (.str d.shown) H
theorem call_reprD {X : Cx} (hG : X.A.guards = some []) (hu : X.A.units + 180 < cLine) :
    CallR X (.builtin "repr") (rRepr X.K) := by
  intro pins s σ H xs us Q I r h
  obtain ⟨x, d, rfl, hd, hs, hn, hdep, hz, q⟩ := h
  have hz' := text_room _ hz
  cases r with
  | cons r1 r2 =>
    cases r2
    have big : ∀ (u : Addr), RelV x (.ref u) → wpAny (model X.prog X.w) X.A
        (call (.builtin "repr") [.ref u]) (EP X pins σ Q) X.xe s := by
      intro u ru
      obtain ⟨as, hr⟩ := Dp.reads I d x _ hd ru
      refine repr_of_reads' (h₀ := s.heap) hr hs (fun e => ?_) hG (by omega)
        (fun _ _ e => e) ?_ hz'
      · rw [hn] at e
        cases e
      · intro h' u' tk hk
        exact ⟨.str d.shown, H, I.kept hk, ⟨_, rfl⟩, q⟩
    cases hd with
    | non =>
      cases r1
      exact PySem.P.repr_of_none ⟨.str _, H, I.tok _, ⟨_, rfl⟩, by simpa only [PyData.shown] using q⟩
    | bl b =>
      cases r1
      exact PySem.P.repr_of_bool ⟨.str _, H, I.tok _, ⟨_, rfl⟩, by simpa only [PyData.shown] using q⟩
    | int i =>
      obtain ⟨tk, rfl⟩ := r1
      have hi : i.natAbs.log2 < 1920 := by simpa [PyData.showable] using hs
      exact PySem.P.repr_of_int hi ⟨.str _, H, I.tok _, ⟨_, rfl⟩, by simpa only [PyData.shown] using q⟩
    | str z =>
      obtain ⟨tk, rfl⟩ := r1
      exact PySem.P.repr_of_str ⟨.str _, H, I.tok _, ⟨_, rfl⟩, by simpa only [PyData.shown] using q⟩
        (by simpa only [PyData.shown] using hz')
    | lst h1 h2 =>
      cases r1
      exact big _ rfl
    | tup h1 h2 =>
      cases r1
      exact big _ rfl

/-! ### the law's head -/
section
variable {P : Program} {w : World} {K : PySem.W.Frag} {mg mb : Str → Option Value}
  {CX : CXT} {k : Nat} {fa a : Addr} {fd : FuncData} {x : Str} {sp : Sp} {s1 : Shared}
  {vs : List Value} {ns : List Int}

/-- what is asked of the law's call: True, and what stood stands -/
def LawEnd (s1 : Shared) (r : Result) (s' : Shared) : Prop :=
  r = .ok (.ret (.bool true)) ∧ OldK s1.heap s'.heap ∧ s'.os = s1.os ∧ AllBare s'.gens

theorem law_core (KX : K.In s1.heap) (hns : s1.heap.Ns mainGlobals mg)
    (hb : s1.heap.Ns builtinsNs mb) (hbb : ∀ y : Str, y ≠ "__name__" → mb y = bootBuiltins y)
    (hlim : s1.heap.NoLimit) (hgen : s1.gens = #[])
    (ha : s1.heap.get? a = some { cls := .type "list", data := .seq vs.toArray })
    (hr : Room k callerA)
    (F : ∀ base : Heap, K.In base → base.Ns mainGlobals mg →
      FnG P w K mg base CX k fa fd [x] sp)
    (hbind : ∀ (s : Shared) (u : Value), BindsTo s fd ⟨[u], []⟩ [(x, u)])
    (hsp : ∀ H : Hp, Only H → SqL K H a (ns.map V.int) →
      sp [.ref a] H (fun v _ => v = .bl true) fun _ _ _ => False)
    (hCX : ∀ H e s', CX [] H s1 (fun _ _ _ => False) e s' → False)
    (H : Hp) (hO : Only H) (hS : SqL K H a (ns.map V.int)) (hok : HOk P w H s1.heap)
    (hA : ∀ b, H b ≠ none → b = a) (hK : H a ≠ none → K.lookup a = none) :
    codeAny (model P w) callerA (.call (.ref fa) ⟨[.ref a], []⟩) (LawEnd s1) s1 := by
  have dict_free : ∀ {b : Addr} {o : Obj} {es : Array DictEntry} {ep : Nat},
      s1.heap.get? b = some o → o.data = .dict es ep → H b = none := by
    intro b o es ep e d
    cases q : H b with
    | none => rfl
    | some u =>
      have e' : b = a := hA b (by rw [q]; simp)
      subst e'
      rw [ha] at e
      cases e
      cases d
  have nsK : ∀ {b : Addr} {m : Str → Option Value}, s1.heap.Ns b m →
      (hidT s1.heap H).Ns b m := by
    rintro b m ⟨o, es, ep, e, d, r⟩
    exact ⟨o, es, ep, hidT_get e (dict_free e d), d, r⟩
  have hKb : K.In (hidT s1.heap H) := by
    intro b o e
    refine hidT_get (KX b o e) ?_
    cases q : H b with
    | none => rfl
    | some u =>
      have e' : b = a := hA b (by rw [q]; simp)
      subst e'
      rw [hK (by rw [q]; simp)] at e
      cases e
  have hlim' : (hidT s1.heap H).NoLimit := by
    obtain ⟨mc, h1, h2⟩ := hlim
    exact ⟨mc, nsK h1, h2⟩
  have hM : Mod K mg (hidT s1.heap H) := ⟨hKb, nsK hns, ⟨mb, nsK hb, hbb⟩, hlim'⟩
  have e0 : Env0 P w K mg (hidT s1.heap H) callerA [] s1 H := by
    refine ⟨rfl, hM, fun b o e => of_hidT e, Nat.le_of_eq (hidT_size _ _), trivial, ?_,
      hok, .of_eq hgen⟩
    intro b hb
    exact absurd (show b ∈ ([] : List Addr) from hb) (by simp)
  have z := (F _ hKb (nsK hns)).run callerA [] s1 H ⟨[.ref a], []⟩ [.ref a] [.ref a] _ _
    rfl hr e0 (hbind s1 (.ref a)) (.cons rfl .nil) (hsp H hO hS)
  refine codeAny_mono z ?_
  intro r s' h
  match r, h with
  | .error e, h => exact (hCX H e s' h).elim
  | .ok (.ret u), h =>
    obtain ⟨v, H', os, bare, un, hok', r', q⟩ := h
    have q' : v = .bl true := q
    subst q'
    obtain rfl : u = Value.bool true := r'
    refine ⟨rfl, OldK.of_keep ?_, os, bare⟩
    intro b o e
    cases q : H b with
    | none => exact un.keep b o e q (fun z => by cases z) (fun z => by cases z)
    | some u =>
      rcases hO b with z | ⟨ob, xs, z⟩
      · rw [q] at z
        cases z
      · have z2 := un.frzs b ob _ z
        obtain ⟨e1, _⟩ := hok b _ z
        obtain ⟨e2, _⟩ := hok' b _ z2
        rw [e] at e1
        cases e1
        exact e2

theorem law_callG (KX : K.In s1.heap) (hns : s1.heap.Ns mainGlobals mg)
    (hb : s1.heap.Ns builtinsNs mb) (hbb : ∀ y : Str, y ≠ "__name__" → mb y = bootBuiltins y)
    (hlim : s1.heap.NoLimit) (hgen : s1.gens = #[])
    (ha : s1.heap.get? a = some { cls := .type "list", data := .seq vs.toArray })
    (hi : IntsAre vs ns) (hl : ns.length ≤ sizeLine) (hr : Room k callerA)
    (F : ∀ base : Heap, K.In base → base.Ns mainGlobals mg →
      FnG P w K mg base CX k fa fd [x] sp)
    (hbind : ∀ (s : Shared) (u : Value), BindsTo s fd ⟨[u], []⟩ [(x, u)])
    (hsp : ∀ H : Hp, Only H → SqL K H a (ns.map V.int) →
      sp [.ref a] H (fun v _ => v = .bl true) fun _ _ _ => False)
    (hCX : ∀ H e s', CX [] H s1 (fun _ _ _ => False) e s' → False) :
    codeAny (model P w) callerA (.call (.ref fa) ⟨[.ref a], []⟩) (LawEnd s1) s1 := by
  have rv := vals_ints hi
  have lenV := hi.length
  have core := law_core (x := x) KX hns hb hbb hlim hgen ha hr F hbind hsp hCX
  cases hk : K.lookup a with
  | some o =>
    have e := KX a o hk
    rw [ha] at e
    cases e
    refine core (fun _ => none) (fun _ => .inl rfl) (.inr ?_) (fun b u z => ?_)
      (fun b z => absurd rfl z) (fun z => absurd rfl z)
    · exact ⟨_, vs.toArray, _, hk, rfl, rfl, rfl,
        by rw [List.size_toArray, lenV]; exact hl, by simpa using rv⟩
    · have z' : (none : Option HO) = some u := z
      cases z'
  | none =>
    let o0 : Obj := { cls := .type "list", data := .seq vs.toArray }
    let H : Hp := fun b => if b = a then some (.frz o0 (.lst (ns.map V.int))) else none
    have at_a : H a = some (.frz o0 (.lst (ns.map V.int))) := if_pos rfl
    have off : ∀ b, b ≠ a → H b = none := fun b h => if_neg h
    refine core H (fun b => ?_) (.inl (.inr ⟨o0, at_a⟩)) (fun b u z => ?_) (fun b z => ?_)
      (fun _ => hk)
    · by_cases h : b = a
      · subst h
        exact .inr ⟨_, _, at_a⟩
      · exact .inl (off b h)
    · by_cases h : b = a
      · subst h
        rw [at_a] at z
        cases z
        exact ⟨ha, by rw [List.length_map]; exact hl, vs, _, rv, ha⟩
      · rw [off b h] at z
        cases z
    · by_cases h : b = a
      · exact h
      · exact absurd (off b h) z
end

theorem walk_ofG {l : PySem.W.OpenLaw} {n k : Nat} {q : Program} {loose : List Str}
    {XP : (Str → Option Value) → Heap → Prop} {YP : World → Heap → Prop} {d : DefRec}
    {K : Params → PySem.W.Frag} {CX : World → CXT} {sp : World → Sp} {x : Str}
    (hn : l.most = some n) (hn2 : n ≤ sizeLine) (hdf : d.params.defaults = [])
    (hr : Room k callerA) (hY : ∀ (w : World) (h : Heap), YP w h → (K w.params).In h)
    (F : ∀ (w : World) (mg : Str → Option Value) (fa : Addr) (h : Heap),
      (K w.params).In h → h.Ns mainGlobals mg → mg d.name = some (.ref fa) →
      ∃ fd : FuncData, (∀ (s : Shared) (u : Value), BindsTo s fd ⟨[u], []⟩ [(x, u)]) ∧
        ∀ base : Heap, (K w.params).In base → base.Ns mainGlobals mg →
          FnG l.prog w (K w.params) mg base (CX w) k fa fd [x] (sp w))
    (hsp : ∀ (w : World) (H : Hp) (a : Addr) (ns : List Int), ns.length ≤ n → Only H →
      SqL (K w.params) H a (ns.map V.int) →
      sp w [.ref a] H (fun v _ => v = .bl true) fun _ _ _ => False)
    (hCX : ∀ (w : World) (H : Hp) (s : Shared) (e : Value) (s' : Shared),
      CX w [] H s (fun _ _ _ => False) e s' → False) :
    PySem.W.WalkO q loose XP YP l.row.toRowW d [] (fun f vs => PySem.call f vs) := by
  refine Att.attach_call hn hdf ?_
  intro w s₀ s₁ mg mb fa o pm cd doc a vs ns G Y ho hd hcd hmg hobj hints hlen hg
  have KX := hY w _ Y
  obtain ⟨fd, hb, hF⟩ := F w mg fa _ KX G.T.g hmg
  exact law_callG KX G.T.g G.T.b G.T.builtins G.T.nolimit hg hobj hints
    (Nat.le_trans hlen hn2) hr hF hb (fun H hO hS => hsp w H a ns hlen hO hS)
    (fun H e s' => hCX w H s₁ e s')
end GX

set_option Elab.async false
set_option linter.all false
set_option maxRecDepth 100000
set_option maxHeartbeats 4000000
namespace GX
open PySem L2 PySem.Spec
section
variable {K : PySem.W.Frag} {σ : L2.St} {H : Hp} {Q : VK} {D : Ends} {ta tb tc te : TE}
  {t u : TS} {c d : TT} {i j : Int} {x y v : V} {g : TG} {n : Nat} {r r' : R2}

/-! ### readings, one step each -/
theorem r_seq (h : t { D with nx := u D } σ H) : tSeq t u D σ H := h
theorem r_asg (h : te σ H fun x H1 => g x σ H1 D.nx) : tAsg te g D σ H := h
theorem r_name {R : L2.St → Hp → Prop} (h : R (σ.set n (some v)) H) : gName n v σ H R := h
theorem r_var (h : σ[n]? = some (some v)) (q : Q v H) : tVar n σ H Q := ⟨v, h, q⟩
theorem r_c (q : Q v H) : tC v σ H Q := q
theorem r_op (h : ta σ H fun x H1 => tb σ H1 fun y H2 => r x y H2 Q) : tOp r ta tb σ H Q := h
theorem r_un {f : V → Hp → VK → Prop} (h : ta σ H fun x H1 => f x H1 Q) : tUn f ta σ H Q := h
theorem r_I0 {f : Int → Int → V} (q : Q (f i j) H) : rI0 f (.int i) (.int j) H Q :=
  ⟨i, j, rfl, rfl, q⟩
theorem r_I {C : Int → Int → Prop} {f : Int → Int → V} (h : C i j) (q : Q (f i j) H) :
    rI C f (.int i) (.int j) H Q := ⟨i, j, rfl, rfl, h, q⟩
theorem r_U {f : Int → V} (q : Q (f i) H) : rU f (.int i) H Q := ⟨i, rfl, q⟩
theorem r_eq (h : scal x y = true) (q : Q (.bl (decide (x = y))) H) : rEq x y H Q := ⟨h, q⟩
theorem r_ne (h : scal x y = true) (q : Q (.bl (!decide (x = y))) H) : rNe x y H Q := ⟨h, q⟩
theorem r_ixL {p : Addr} {xs : List V} (h : SqL K H p xs) (e : atI xs i = some v) (q : Q v H) :
    rIxL K (.ref p) (.int i) H Q := ⟨p, xs, i, v, rfl, rfl, h, e, q⟩
theorem r_ixT {p : Addr} {xs : List V} (h : SqT K H p xs) (e : atI xs i = some v) (q : Q v H) :
    rIxT K (.ref p) (.int i) H Q := ⟨p, xs, i, v, rfl, rfl, h, e, q⟩
theorem r_ifS (h : c σ H fun b H1 => if b = true then t D σ H1 else u D σ H1) :
    tIfS c t u D σ H := h
theorem r_if (h : c σ H fun b H1 => if b = true then ta σ H1 Q else tb σ H1 Q) :
    tIf c ta tb σ H Q := h
theorem r_test {R : Bool → Hp → Prop} (h : te σ H fun x H1 => ∃ k, x = .bl k ∧ R k H1) :
    tTest te σ H R := h
theorem r_B {R : Bool → Hp → Prop} (h : te σ H fun x H1 => ∃ k, x = .bl k ∧ R k H1) :
    tB te σ H R := h
theorem r_and {R : Bool → Hp → Prop}
    (h : c σ H fun b H1 => if b = true then d σ H1 R else R false H1) : tAnd c d σ H R := h
theorem r_or {R : Bool → Hp → Prop}
    (h : c σ H fun b H1 => if b = true then R true H1 else d σ H1 R) : tOr c d σ H R := h
theorem r_not {R : Bool → Hp → Prop} (h : c σ H fun b H1 => R (!b) H1) : tNot c σ H R := h
theorem r_bl {R : Bool → Prop} {b : Bool} (h : R b) : ∃ k, V.bl b = V.bl k ∧ R k := ⟨b, rfl, h⟩
theorem r_ret (h : te σ H D.rt) : tRet te D σ H := h
theorem r_drop (h : te σ H fun _ H1 => D.nx σ H1) : tDrop te D σ H := h
theorem r_nil {R : List V → Hp → Prop} (h : R [] H) : tNil σ H R := h
theorem r_cons {tr : TA} {R : List V → Hp → Prop}
    (h : ta σ H fun x H1 => tr σ H1 fun xs H2 => R (x :: xs) H2) : tCons ta tr σ H R := h
theorem r_CB {f : List V → Hp → VK → Prop} {a : TA} (h : a σ H fun vs H1 => f vs H1 Q) :
    tCB f a σ H Q := h
theorem r_call {sp : Sp} {dvs : List V} {E : XK} {a : TA}
    (h : a σ H fun vs H1 => sp (vs ++ dvs) H1 Q E) : tCall sp dvs E a σ H Q := h
theorem r_int {S : Int → Prop} {B : Prop} (q : S i) : (∃ k, [V.int i] = [V.int k] ∧ S k) ∨ B :=
  .inl ⟨i, rfl, q⟩
theorem r_tup {a : TA} (h : a σ H fun xs H1 => xs.length ≤ sizeLine ∧
    ∀ p, H1 p = none → Q (.ref p) (upd H1 p (.tup xs))) : tTup a σ H Q := h
theorem r_lst {a : TA} (h : a σ H fun xs H1 => xs.length ≤ sizeLine ∧
    ∀ p, H1 p = none → Q (.ref p) (upd H1 p (.lst xs))) : tLst a σ H Q := h
theorem r_andV (h : ta σ H fun x H1 => ∃ b, x = .bl b ∧
    if b = true then tb σ H1 Q else Q (.bl false) H1) : tAndV ta tb σ H Q := h
theorem r_chain (h : ta σ H fun x H1 => tb σ H1 fun y H2 => r x y H2 fun z H3 =>
    ∃ k, z = .bl k ∧ if k = true then tc σ H3 fun w H4 => r' y w H4 Q else Q (.bl false) H3) :
    tChain r r' ta tb tc σ H Q := h
theorem r_sub {to ti : TE} {s : TSet} {R : L2.St → Hp → Prop}
    (h : to σ H fun o H1 => ti σ H1 fun k H2 => s o k v H2 fun H3 => R σ H3) :
    gSub to ti s v σ H R := h
theorem r_setL {p : Addr} {xs : List V} {m : Nat} {R : Hp → Prop} (h : H p = some (.lst xs))
    (e : ixN xs.length i = some m) (q : R (upd H p (.lst (xs.set m v)))) :
    rSetL (.ref p) (.int i) v H R := ⟨p, xs, i, m, rfl, rfl, h, e, q⟩
theorem r_cut (M : L2.St → Hp → Prop) (h : t { D with nx := M } σ H)
    (k : ∀ σ' H', M σ' H' → u D σ' H') : Evl.tCut t u D σ H := ⟨M, h, k⟩
theorem r_next (h : D.nx σ H) : tNext D σ H := h
theorem ite_t {A B : Prop} {b : Bool} (hb : b = true) (h : A) : if b = true then A else B := by
  rw [if_pos hb]
  exact h
theorem ite_f {A B : Prop} {b : Bool} (hb : b = false) (h : B) : if b = true then A else B := by
  rw [hb]
  exact h
theorem ite_b {A B : Prop} {b : Bool} (h1 : b = true → A) (h2 : b = false → B) :
    if b = true then A else B := by
  cases b with
  | true => exact h1 rfl
  | false => exact h2 rfl
end

/-! ### loops -/
/-- the turns of a for -/
def ForGo (g : TG) (tb : TS) (D : Ends) (J : It) (σ : L2.St) (H : Hp) : Prop :=
  ∃ W : Nat → Nat → L2.St → Hp → Prop, (∃ m, W 0 m σ H) ∧ ∀ i m σ H, W i m σ H →
    (J.stop i H ∧ D.nx σ H) ∨ (J.go i H ∧ ∃ N : L2.St → Hp → Prop,
      (∀ σ' H', N σ' H' → ∃ m', m' < m ∧ W (i + 1) m' σ' H') ∧
      ∀ x H', J.yld i H x H' → g x σ H' fun σ2 H2 =>
        tb { D with nx := N, ct := N, bk := D.nx } σ2 H2)
/-- the turns of a comprehension -/
def LcGo (g : TG) (tt : TT) (te : TE) (vs : List Nat) (σ : L2.St) (Q : VK) (J : It) (H1 : Hp) :
    Prop := ∀ D, H1 D = none → ∃ W : Nat → Nat → Hp → Prop,
  (∃ m, W 0 m (upd H1 D (.lst []))) ∧ ∀ i m H, W i m H →
    (J.stop i H ∧ Q (.ref D) H) ∨ (J.go i H ∧ ∃ Nx : Hp → Prop,
      (∀ H', Nx H' → ∃ m', m' < m ∧ W (i + 1) m' H') ∧
      ∀ x H', J.yld i H x H' → g x (wipe σ vs) H' fun σ2 H2 => wipe σ2 vs = wipe σ vs ∧
        tt σ2 H2 fun b H3 => if b = true then te σ2 H3 fun y H4 =>
          ∃ acc, H4 D = some (.lst acc) ∧ acc.length < sizeLine ∧
            Nx (upd H4 D (.lst (acc ++ [y]))) else Nx H3)
section
variable {K : PySem.W.Frag} {σ : L2.St} {H : Hp} {Q : VK} {D : Ends} {ta tb tc te tl : TE}
  {t u : TS} {tt : TT} {g : TG} {wi : TI} {R : It → Hp → Prop} {a : Addr} {xs : List V}
  {vs : List Nat}
theorem r_for (h : wi σ H fun J H1 => ForGo g t D J σ H1) : tFor wi g t D σ H := h
theorem r_lc (h : wi σ H fun J H1 => LcGo g tt te vs σ Q J H1) : tLc wi g tt te vs σ H Q := h
theorem r_iList (h : tl σ H fun x H1 => ∃ a, x = .ref a ∧ (∃ xs, SqL K H1 a xs) ∧
    R (Itl K a) H1) : iList K tl σ H R := h
theorem r_itl {S : Addr → Prop} (h : SqL K H a xs) (q : S a) :
    ∃ b, V.ref a = .ref b ∧ (∃ xs, SqL K H b xs) ∧ S b := ⟨a, rfl, ⟨xs, h⟩, q⟩
theorem r_iTup (h : tl σ H fun x H1 => ∃ a, x = .ref a ∧ (∃ xs, SqT K H1 a xs) ∧
    R (Itt K a) H1) : iTup K tl σ H R := h
theorem r_itt {S : Addr → Prop} (h : SqT K H a xs) (q : S a) :
    ∃ b, V.ref a = .ref b ∧ (∃ xs, SqT K H b xs) ∧ S b := ⟨a, rfl, ⟨xs, h⟩, q⟩
theorem r_iStr (h : tl σ H fun x H1 => ∃ z, x = .str z ∧ R (Its z) H1) : iStr tl σ H R := h
theorem r_its {z : Str} {S : Str → Prop} (q : S z) : ∃ y, V.str z = .str y ∧ S y := ⟨z, rfl, q⟩
theorem r_rng1 {ar : TA} (h : ar σ H fun vs H1 => ∃ j : Int, vs = [.int j] ∧
    -(2 ^ 62) ≤ j ∧ j < 2 ^ 62 ∧ R (Itr 0 j.toNat) H1) : iRng1 ar σ H R := h
theorem r_rg1 {j : Int} {S : Int → Prop} (h : -(2 ^ 62) ≤ j ∧ j < 2 ^ 62) (q : S j) :
    ∃ k : Int, [V.int j] = [.int k] ∧ -(2 ^ 62) ≤ k ∧ k < 2 ^ 62 ∧ S k := ⟨j, rfl, h.1, h.2, q⟩
theorem r_zip {ar : TA} (h : ar σ H fun vs H1 => ∃ a b xs ys, vs = [.ref a, .ref b] ∧
    SqL K H1 a xs ∧ SqL K H1 b ys ∧ R (Itz K a b) H1) : iZip K ar σ H R := h
theorem r_itz {b : Addr} {ys : List V} {S : Addr → Addr → Prop} (h1 : SqL K H a xs)
    (h2 : SqL K H b ys) (q : S a b) : ∃ a' b' xs ys, [V.ref a, .ref b] = [.ref a', .ref b'] ∧
    SqL K H a' xs ∧ SqL K H b' ys ∧ S a' b' := ⟨a, b, xs, ys, rfl, h1, h2, q⟩
theorem r_enum {ar : TA} (h : ar σ H fun vs H1 => ∃ a xs, vs = [.ref a] ∧
    SqL K H1 a xs ∧ R (Ite K a) H1) : iEnum K ar σ H R := h
theorem r_ite {S : Addr → Prop} (h1 : SqL K H a xs) (q : S a) :
    ∃ a' xs, [V.ref a] = [.ref a'] ∧ SqL K H a' xs ∧ S a' := ⟨a, xs, rfl, h1, q⟩

/-- a for by what holds behind each turn -/
theorem for_go {J : It} {n : Nat} {G : Hp → Prop} {Y : Nat → Hp → V → Hp → Prop}
    (w : Walk J n G Y) (Pv : Nat → L2.St → Hp → Prop) (h0 : Pv 0 σ H)
    (hG : ∀ i σ H, i ≤ n → Pv i σ H → G H)
    (hs : ∀ i x σ H H', i < n → Pv i σ H → Y i H x H' → g x σ H' fun σ2 H2 =>
      t { D with nx := Pv (i + 1), ct := Pv (i + 1), bk := D.nx } σ2 H2)
    (hd : ∀ σ H, Pv n σ H → D.nx σ H) : ForGo g t D J σ H := for_it w Pv h0 hG hs hd
/-- the list at D, of at most n items, and what is told of it -/
def LcIn (D : Addr) (Pv : List V → Hp → Prop) (n : Nat) (H : Hp) : Prop :=
  ∃ acc, acc.length ≤ n ∧ H D = some (.lst acc) ∧ Pv acc H
theorem lc_put {D : Addr} {Pv : List V → Hp → Prop} {i : Nat} {acc : List V} {y : V}
    (h : H D = some (.lst acc)) (hl : acc.length ≤ i) (hi : i < 1000000)
    (p : Pv (acc ++ [y]) (upd H D (.lst (acc ++ [y])))) :
    ∃ acc, H D = some (.lst acc) ∧ acc.length < sizeLine ∧
      LcIn D Pv (i + 1) (upd H D (.lst (acc ++ [y]))) := by
  have big : (1000000 : Nat) < sizeLine := by decide
  refine ⟨acc, h, by omega, acc ++ [y], ?_, upd_same, p⟩
  rw [List.length_append]
  exact Nat.succ_le_succ hl
theorem lc_skip {D : Addr} {Pv : List V → Hp → Prop} {i : Nat} {acc : List V}
    (h : H D = some (.lst acc)) (hl : acc.length ≤ i) (p : Pv acc H) : LcIn D Pv (i + 1) H :=
  ⟨acc, Nat.le_succ_of_le hl, h, p⟩
/-- a comprehension, its list so far told -/
theorem lc_go {J : It} {n : Nat} {G : Hp → Prop} {Y : Nat → Hp → V → Hp → Prop}
    (w : Walk J n G Y) (Pv : Addr → Nat → List V → Hp → Prop)
    (h0 : ∀ D, H D = none → Pv D 0 [] (upd H D (.lst [])))
    (hG : ∀ D i acc H', i ≤ n → H D = none → Pv D i acc H' → G H')
    (hs : ∀ D i acc x H1 H2, i < n → H D = none → acc.length ≤ i → H1 D = some (.lst acc) →
      Pv D i acc H1 → Y i H1 x H2 → g x (wipe σ vs) H2 fun σ2 H3 => wipe σ2 vs = wipe σ vs ∧
        tt σ2 H3 fun b H4 => if b = true then te σ2 H4 fun y H5 =>
          ∃ acc, H5 D = some (.lst acc) ∧ acc.length < sizeLine ∧
            LcIn D (Pv D (i + 1)) (i + 1) (upd H5 D (.lst (acc ++ [y])))
          else LcIn D (Pv D (i + 1)) (i + 1) H4)
    (hd : ∀ D acc H', H D = none → acc.length ≤ n → Pv D n acc H' → H' D = some (.lst acc) →
      Q (.ref D) H') : LcGo g tt te vs σ Q J H := by
  intro D hD
  refine lc_it w (fun i H' => LcIn D (Pv D i) i H')
    ⟨[], Nat.le_refl _, upd_same, h0 D hD⟩ ?_ ?_ ?_
  · rintro i H' hi ⟨acc, _, _, p⟩
    exact hG D i acc H' hi hD p
  · rintro i x H1 H2 hi ⟨acc, hl, hA, p⟩ y
    exact hs D i acc x H1 H2 hi hD hl hA p y
  · rintro H' ⟨acc, hl, hA, p⟩
    exact hd D acc H' hD hl p hA
end
section
variable {σ : L2.St} {H : Hp} {Q : VK} {te : TE} {v : V}
theorem r_sl {f : V → Option Int → Option Int → Hp → VK → Prop} {tl th : TO}
    (h : te σ H fun x H1 => tl σ H1 fun l H2 => th σ H2 fun u H3 => f x l u H3 Q) :
    tSl f te tl th σ H Q := h
theorem r_part {R : Option Int → Hp → Prop}
    (h : te σ H fun x H1 => ∃ i, x = .int i ∧ R (some i) H1) : tPart te σ H R := h
theorem r_prt {R : Int → Prop} {i : Int} (h : R i) : ∃ k, V.int i = .int k ∧ R k := ⟨i, rfl, h⟩
theorem r_nopart {R : Option Int → Hp → Prop} (h : R none H) : tNoPart σ H R := h
theorem r_slL {K : PySem.W.Frag} {a : Addr} {xs : List V} {l u : Option Int} (h : SqL K H a xs)
    (q : ∀ p, H p = none → Q (.ref p) (upd H p (.lst (cutV xs l u)))) :
    rSlL K (.ref a) l u H Q := ⟨a, xs, rfl, h, q⟩
theorem r_slS {z : Str} {l u : Option Int} (h : z.length ≤ sizeLine) (q : Q (.str (cutS z l u)) H) :
    rSlS (.str z) l u H Q := ⟨z, rfl, h, q⟩
theorem r_M1 {f : V → List V → Hp → VK → Prop} {to : TE}
    (h : to σ H fun x H1 => (∃ a, x = .str a) ∧ te σ H1 fun y H2 => f x [y] H2 Q) :
    tM1 f to te σ H Q := h
theorem r_M0 {f : V → List V → Hp → VK → Prop} {to : TE}
    (h : to σ H fun x H1 => (∃ a, x = .str a) ∧ f x [] H1 Q) : tM0 f to σ H Q := h
theorem r_isS {S : Prop} {z : Str} (h : S) : (∃ a, V.str z = .str a) ∧ S := ⟨⟨z, rfl⟩, h⟩
theorem r_BM {K : PySem.W.Frag} {T : String} {f : V → List V → Hp → VK → Prop} {to : TE} {t : TA}
    (h : to σ H fun x H1 => tyV K T x H1 ∧ t σ H1 fun xs H2 => f x xs H2 Q) :
    tBM K T f to t σ H Q := h
theorem r_BM0 {K : PySem.W.Frag} {T : String} {f : V → List V → Hp → VK → Prop} {to : TE}
    (h : to σ H fun x H1 => tyV K T x H1 ∧ f x [] H1 Q) : tBM0 K T f to σ H Q := h
theorem r_tyL {K : PySem.W.Frag} {S : Prop} {p : Addr} {xs : List V} (h : SqL K H p xs) (q : S) :
    tyV K "list" (.ref p) H ∧ S := ⟨.inl ⟨rfl, xs, h⟩, q⟩
theorem r_app {p : Addr} {xs : List V} {y : V} (h : H p = some (.lst xs)) (hz : xs.length ≤ 1000000)
    (q : Q .non (upd H p (.lst (xs ++ [y])))) : rAppend (.ref p) [y] H Q :=
  ⟨p, xs, y, rfl, rfl, h, Nat.lt_of_le_of_lt hz (by decide), q⟩
theorem r_addS {S : Str → Str → Prop} {x y : Str} (h : x.length + y.length ≤ 1000000) (q : S x y) :
    ∃ i j, V.str x = .str i ∧ V.str y = .str j ∧ i.length + j.length ≤ sizeLine ∧ S i j :=
  ⟨x, y, rfl, rfl, Nat.le_trans h (by decide), q⟩
theorem r_lenS {S : Str → Prop} {z : Str} (h : z.length ≤ 1000000) (q : S z) :
    ∃ y, [V.str z] = [.str y] ∧ y.length ≤ sizeLine ∧ S y := ⟨z, rfl, Nat.le_trans h (by decide), q⟩
theorem r_yes {R : Bool → Hp → Prop} (h : R true H) : tYes σ H R := h
end

section
variable {K : PySem.W.Frag} {σ : L2.St} {H : Hp} {Q : VK} {D : Ends} {te : TE}
  {t : TS} {tt : TT} {g : TG} {a b : Addr} {vs : List Nat}
theorem for_L (xs : List V) (Pv : Nat → L2.St → Hp → Prop) (h0 : Pv 0 σ H)
    (hG : ∀ i σ H, i ≤ xs.length → Pv i σ H → SqL K H a xs)
    (hs : ∀ i x σ H, xs[i]? = some x → Pv i σ H → g x σ H fun σ2 H2 =>
      t { D with nx := Pv (i + 1), ct := Pv (i + 1), bk := D.nx } σ2 H2)
    (hd : ∀ σ H, Pv xs.length σ H → D.nx σ H) : ForGo g t D (Itl K a) σ H :=
  for_go (walk_list (xs := xs)) Pv h0 hG (fun i x σ H H' hi p y => by obtain ⟨rfl, e⟩ := y; exact hs i x σ H' e p) hd
theorem for_T (xs : List V) (Pv : Nat → L2.St → Hp → Prop) (h0 : Pv 0 σ H)
    (hG : ∀ i σ H, i ≤ xs.length → Pv i σ H → SqT K H a xs)
    (hs : ∀ i x σ H, xs[i]? = some x → Pv i σ H → g x σ H fun σ2 H2 =>
      t { D with nx := Pv (i + 1), ct := Pv (i + 1), bk := D.nx } σ2 H2)
    (hd : ∀ σ H, Pv xs.length σ H → D.nx σ H) : ForGo g t D (Itt K a) σ H :=
  for_go (walk_tup (xs := xs)) Pv h0 hG (fun i x σ H H' hi p y => by obtain ⟨rfl, e⟩ := y; exact hs i x σ H' e p) hd
theorem for_R (lo : Int) (n : Nat) (Pv : Nat → L2.St → Hp → Prop) (h0 : Pv 0 σ H)
    
    (hs : ∀ i σ H, i < n → Pv i σ H → g (V.int (lo + (i : Nat))) σ H fun σ2 H2 =>
      t { D with nx := Pv (i + 1), ct := Pv (i + 1), bk := D.nx } σ2 H2)
    (hd : ∀ σ H, Pv n σ H → D.nx σ H) : ForGo g t D (Itr lo n) σ H :=
  for_go (walk_range (lo := lo) (n := n)) Pv h0 (fun _ _ _ _ _ => trivial) (fun i x σ H H' hi p y => by obtain ⟨rfl, rfl⟩ := y; exact hs i σ H' hi p) hd
theorem for_S (z : Str) (Pv : Nat → L2.St → Hp → Prop) (h0 : Pv 0 σ H)
    
    (hs : ∀ i c σ H, z.cps[i]? = some c → Pv i σ H → g (V.str ⟨#[c]⟩) σ H fun σ2 H2 =>
      t { D with nx := Pv (i + 1), ct := Pv (i + 1), bk := D.nx } σ2 H2)
    (hd : ∀ σ H, Pv z.cps.size σ H → D.nx σ H) : ForGo g t D (Its z) σ H :=
  for_go (walk_str (z := z)) Pv h0 (fun _ _ _ _ _ => trivial) (fun i x σ H H' hi p y => by obtain ⟨rfl, c, e, rfl⟩ := y; exact hs i c σ H' e p) hd
theorem for_E (xs : List V) (Pv : Nat → L2.St → Hp → Prop) (h0 : Pv 0 σ H)
    (hG : ∀ i σ H, i ≤ xs.length → Pv i σ H → SqL K H a xs)
    (hs : ∀ i x σ H q, xs[i]? = some x → Pv i σ H → H q = none → g (V.ref q) σ (upd H q (.tup [.int (i : Nat), x])) fun σ2 H2 =>
      t { D with nx := Pv (i + 1), ct := Pv (i + 1), bk := D.nx } σ2 H2)
    (hd : ∀ σ H, Pv xs.length σ H → D.nx σ H) : ForGo g t D (Ite K a) σ H :=
  for_go (walk_enum (xs := xs)) Pv h0 hG (fun i x σ H H' hi p y => by obtain ⟨q, u, v, rfl, hq, rfl, h1, h2⟩ := y; cases h1; exact hs i v σ H q h2 p hq) hd
theorem for_Z (xs ys : List V) (n : Nat) (hn : n = min xs.length ys.length) (Pv : Nat → L2.St → Hp → Prop) (h0 : Pv 0 σ H)
    (hG : ∀ i σ H, i ≤ n → Pv i σ H → SqL K H a xs ∧ SqL K H b ys)
    (hs : ∀ i x y σ H q, xs[i]? = some x → ys[i]? = some y → Pv i σ H → H q = none → g (V.ref q) σ (upd H q (.tup [x, y])) fun σ2 H2 =>
      t { D with nx := Pv (i + 1), ct := Pv (i + 1), bk := D.nx } σ2 H2)
    (hd : ∀ σ H, Pv n σ H → D.nx σ H) : ForGo g t D (Itz K a b) σ H :=
  for_go (walk_zip (xs := xs) (ys := ys) hn) Pv h0 hG (fun i x σ H H' hi p y => by obtain ⟨q, u, v, rfl, hq, rfl, h1, h2⟩ := y; exact hs i u v σ H q h1 h2 p hq) hd
theorem lc_L (xs : List V) (Pv : Addr → Nat → List V → Hp → Prop)
    (h0 : ∀ D, H D = none → Pv D 0 [] (upd H D (.lst [])))
    (hG : ∀ D i acc H', i ≤ xs.length → H D = none → Pv D i acc H' → SqL K H' a xs)
    (hs : ∀ D i acc x H', xs[i]? = some x → H D = none → acc.length ≤ i → H' D = some (.lst acc) → Pv D i acc H' → g x (wipe σ vs) H' fun σ2 H3 => wipe σ2 vs = wipe σ vs ∧
      tt σ2 H3 fun b H4 => if b = true then te σ2 H4 fun y H5 =>
        ∃ acc, H5 D = some (.lst acc) ∧ acc.length < sizeLine ∧
          LcIn D (Pv D (i + 1)) (i + 1) (upd H5 D (.lst (acc ++ [y])))
        else LcIn D (Pv D (i + 1)) (i + 1) H4)
    (hd : ∀ D acc H', H D = none → acc.length ≤ xs.length → Pv D xs.length acc H' →
      H' D = some (.lst acc) → Q (.ref D) H') : LcGo g tt te vs σ Q (Itl K a) H :=
  lc_go (walk_list (xs := xs)) Pv h0 hG (fun D i acc x H1 H2 hi hD hl hA p y => by obtain ⟨rfl, e⟩ := y; exact hs D i acc x _ e hD hl hA p) hd
theorem lc_T (xs : List V) (Pv : Addr → Nat → List V → Hp → Prop)
    (h0 : ∀ D, H D = none → Pv D 0 [] (upd H D (.lst [])))
    (hG : ∀ D i acc H', i ≤ xs.length → H D = none → Pv D i acc H' → SqT K H' a xs)
    (hs : ∀ D i acc x H', xs[i]? = some x → H D = none → acc.length ≤ i → H' D = some (.lst acc) → Pv D i acc H' → g x (wipe σ vs) H' fun σ2 H3 => wipe σ2 vs = wipe σ vs ∧
      tt σ2 H3 fun b H4 => if b = true then te σ2 H4 fun y H5 =>
        ∃ acc, H5 D = some (.lst acc) ∧ acc.length < sizeLine ∧
          LcIn D (Pv D (i + 1)) (i + 1) (upd H5 D (.lst (acc ++ [y])))
        else LcIn D (Pv D (i + 1)) (i + 1) H4)
    (hd : ∀ D acc H', H D = none → acc.length ≤ xs.length → Pv D xs.length acc H' →
      H' D = some (.lst acc) → Q (.ref D) H') : LcGo g tt te vs σ Q (Itt K a) H :=
  lc_go (walk_tup (xs := xs)) Pv h0 hG (fun D i acc x H1 H2 hi hD hl hA p y => by obtain ⟨rfl, e⟩ := y; exact hs D i acc x _ e hD hl hA p) hd
theorem lc_R (lo : Int) (n : Nat) (Pv : Addr → Nat → List V → Hp → Prop)
    (h0 : ∀ D, H D = none → Pv D 0 [] (upd H D (.lst [])))
    
    (hs : ∀ D i acc H', i < n → H D = none → acc.length ≤ i → H' D = some (.lst acc) → Pv D i acc H' → g (V.int (lo + (i : Nat))) (wipe σ vs) H' fun σ2 H3 => wipe σ2 vs = wipe σ vs ∧
      tt σ2 H3 fun b H4 => if b = true then te σ2 H4 fun y H5 =>
        ∃ acc, H5 D = some (.lst acc) ∧ acc.length < sizeLine ∧
          LcIn D (Pv D (i + 1)) (i + 1) (upd H5 D (.lst (acc ++ [y])))
        else LcIn D (Pv D (i + 1)) (i + 1) H4)
    (hd : ∀ D acc H', H D = none → acc.length ≤ n → Pv D n acc H' →
      H' D = some (.lst acc) → Q (.ref D) H') : LcGo g tt te vs σ Q (Itr lo n) H :=
  lc_go (walk_range (lo := lo) (n := n)) Pv h0 (fun _ _ _ _ _ _ _ => trivial) (fun D i acc x H1 H2 hi hD hl hA p y => by obtain ⟨rfl, rfl⟩ := y; exact hs D i acc _ hi hD hl hA p) hd
theorem lc_S (z : Str) (Pv : Addr → Nat → List V → Hp → Prop)
    (h0 : ∀ D, H D = none → Pv D 0 [] (upd H D (.lst [])))
    
    (hs : ∀ D i acc c H', z.cps[i]? = some c → H D = none → acc.length ≤ i → H' D = some (.lst acc) → Pv D i acc H' → g (V.str ⟨#[c]⟩) (wipe σ vs) H' fun σ2 H3 => wipe σ2 vs = wipe σ vs ∧
      tt σ2 H3 fun b H4 => if b = true then te σ2 H4 fun y H5 =>
        ∃ acc, H5 D = some (.lst acc) ∧ acc.length < sizeLine ∧
          LcIn D (Pv D (i + 1)) (i + 1) (upd H5 D (.lst (acc ++ [y])))
        else LcIn D (Pv D (i + 1)) (i + 1) H4)
    (hd : ∀ D acc H', H D = none → acc.length ≤ z.cps.size → Pv D z.cps.size acc H' →
      H' D = some (.lst acc) → Q (.ref D) H') : LcGo g tt te vs σ Q (Its z) H :=
  lc_go (walk_str (z := z)) Pv h0 (fun _ _ _ _ _ _ _ => trivial) (fun D i acc x H1 H2 hi hD hl hA p y => by obtain ⟨rfl, c, e, rfl⟩ := y; exact hs D i acc c _ e hD hl hA p) hd
theorem lc_E (xs : List V) (Pv : Addr → Nat → List V → Hp → Prop)
    (h0 : ∀ D, H D = none → Pv D 0 [] (upd H D (.lst [])))
    (hG : ∀ D i acc H', i ≤ xs.length → H D = none → Pv D i acc H' → SqL K H' a xs)
    (hs : ∀ D i acc x H' q, xs[i]? = some x → H D = none → acc.length ≤ i → H' D = some (.lst acc) → Pv D i acc H' → H' q = none → g (V.ref q) (wipe σ vs) (upd H' q (.tup [.int (i : Nat), x])) fun σ2 H3 => wipe σ2 vs = wipe σ vs ∧
      tt σ2 H3 fun b H4 => if b = true then te σ2 H4 fun y H5 =>
        ∃ acc, H5 D = some (.lst acc) ∧ acc.length < sizeLine ∧
          LcIn D (Pv D (i + 1)) (i + 1) (upd H5 D (.lst (acc ++ [y])))
        else LcIn D (Pv D (i + 1)) (i + 1) H4)
    (hd : ∀ D acc H', H D = none → acc.length ≤ xs.length → Pv D xs.length acc H' →
      H' D = some (.lst acc) → Q (.ref D) H') : LcGo g tt te vs σ Q (Ite K a) H :=
  lc_go (walk_enum (xs := xs)) Pv h0 hG (fun D i acc x H1 H2 hi hD hl hA p y => by obtain ⟨q, u, v, rfl, hq, rfl, h1, h2⟩ := y; cases h1; exact hs D i acc v _ q h2 hD hl hA p hq) hd
theorem lc_Z (xs ys : List V) (n : Nat) (hn : n = min xs.length ys.length) (Pv : Addr → Nat → List V → Hp → Prop)
    (h0 : ∀ D, H D = none → Pv D 0 [] (upd H D (.lst [])))
    (hG : ∀ D i acc H', i ≤ n → H D = none → Pv D i acc H' → SqL K H' a xs ∧ SqL K H' b ys)
    (hs : ∀ D i acc x y H' q, xs[i]? = some x → ys[i]? = some y → H D = none → acc.length ≤ i → H' D = some (.lst acc) → Pv D i acc H' → H' q = none → g (V.ref q) (wipe σ vs) (upd H' q (.tup [x, y])) fun σ2 H3 => wipe σ2 vs = wipe σ vs ∧
      tt σ2 H3 fun b H4 => if b = true then te σ2 H4 fun y H5 =>
        ∃ acc, H5 D = some (.lst acc) ∧ acc.length < sizeLine ∧
          LcIn D (Pv D (i + 1)) (i + 1) (upd H5 D (.lst (acc ++ [y])))
        else LcIn D (Pv D (i + 1)) (i + 1) H4)
    (hd : ∀ D acc H', H D = none → acc.length ≤ n → Pv D n acc H' →
      H' D = some (.lst acc) → Q (.ref D) H') : LcGo g tt te vs σ Q (Itz K a b) H :=
  lc_go (walk_zip (xs := xs) (ys := ys) hn) Pv h0 hG (fun D i acc x H1 H2 hi hD hl hA p y => by obtain ⟨q, u, v, rfl, hq, rfl, h1, h2⟩ := y; exact hs D i acc u v _ q h1 h2 hD hl hA p hq) hd
end

/-! ### frames -/
/-- all but what stands at a is as it was -/
def But (a : Addr) (H H' : Hp) : Prop := ∀ b, b ≠ a → H' b = H b
theorem But.refl (a : Addr) (H : Hp) : But a H H := fun _ _ => rfl
theorem But.trans {a : Addr} {H H1 H2 : Hp} (p : But a H H1) (q : But a H1 H2) : But a H H2 :=
  fun b h => (q b h).trans (p b h)
theorem But.upd {a : Addr} {H H' : Hp} {o : HO} (p : But a H H') : But a H (upd H' a o) :=
  fun b h => (upd_ne h).trans (p b h)
/-- what stood stands, but what stands at a -/
def Kp (a : Addr) (H H' : Hp) : Prop := ∀ b o, H b = some o → b ≠ a → H' b = some o
theorem Kp.refl (a : Addr) (H : Hp) : Kp a H H := fun _ _ e _ => e
theorem Kp.trans {a : Addr} {H H1 H2 : Hp} (p : Kp a H H1) (q : Kp a H1 H2) : Kp a H H2 :=
  fun b o e h => q b o (p b o e h) h
theorem But.kp {a : Addr} {H H' : Hp} (p : But a H H') : Kp a H H' :=
  fun b o e h => (p b h).trans e
theorem Kp.new {a p : Addr} {H H' : Hp} {o : HO} (q : Kp a H H') (h : H' p = none) :
    Kp a H (upd H' p o) := fun b u e ne => by
  have z := q b u e ne
  rw [upd_ne (ne_of_none z h)]
  exact z
theorem Same.kp {a : Addr} {H H' : Hp} (s : Same H H') : Kp a H H' := fun b o e _ => s b o e
theorem Kp.free {a p : Addr} {H H' : Hp} (q : Kp a H H') (h : H' p = none) (ne : p ≠ a) :
    H p = none := by
  cases e : H p with
  | none => rfl
  | some o =>
    rw [q p o e ne] at h
    cases h
theorem Kp.seq {K : PySem.W.Frag} {a b : Addr} {H H' : Hp} {xs : List V} (q : Kp a H H')
    (ne : b ≠ a) (h : SqL K H b xs) : SqL K H' b xs := by
  rcases h with (h | ⟨o, h⟩) | h
  · exact .inl (.inl (q _ _ h ne))
  · exact .inl (.inr ⟨o, q _ _ h ne⟩)
  · exact .inr h
theorem Kp.seqT {K : PySem.W.Frag} {a b : Addr} {H H' : Hp} {xs : List V} (q : Kp a H H')
    (ne : b ≠ a) (h : SqT K H b xs) : SqT K H' b xs := by
  rcases h with (h | ⟨o, h⟩) | h
  · exact .inl (.inl (q _ _ h ne))
  · exact .inl (.inr ⟨o, q _ _ h ne⟩)
  · exact .inr h
theorem Same.new {H : Hp} {p : Addr} {o : HO} (h : H p = none) : Same H (upd H p o) :=
  fun b u e => by
  rw [upd_ne (ne_of_none e h)]
  exact e
theorem same_set {H H' : Hp} {p : Addr} {o : HO} (q : Same H H') (h : H p = none) :
    Same H (upd H' p o) := fun b u e => by
  rw [upd_ne (ne_of_none e h)]
  exact q b u e
theorem Same.seqT {K : PySem.W.Frag} {a : Addr} {H H' : Hp} {xs : List V} (q : Same H H')
    (h : SqT K H a xs) : SqT K H' a xs := by
  rcases h with (h | ⟨o, h⟩) | h
  · exact .inl (.inl (q _ _ h))
  · exact .inl (.inr ⟨o, q _ _ h⟩)
  · exact .inr h

section
variable {K : PySem.W.Frag} {H : Hp} {a p : Addr} {o u : HO} {xs : List V}
theorem sq_upd (np : H p = none) (h : SqL K H a xs) : SqL K (upd H p o) a xs :=
  Same.seq (Same.new np) h
theorem sqT_upd (np : H p = none) (h : SqT K H a xs) : SqT K (upd H p o) a xs :=
  Same.seqT (Same.new np) h
theorem at_upd (np : H p = none) (h : H a = some u) : upd H p o a = some u :=
  Same.new np a u h
theorem at_ne (ne : a ≠ p) (h : H a = some u) : upd H p o a = some u := (upd_ne ne).trans h
theorem at_ne0 (ne : a ≠ p) (h : H a = none) : upd H p o a = none := (upd_ne ne).trans h
theorem r_list_of {S : List V → Prop} (h : SqL K H a xs) (q : S xs) :
    ∃ p ys, [V.ref a] = [V.ref p] ∧ (SqL K H p ys ∨ SqT K H p ys) ∧ S ys :=
  ⟨a, xs, rfl, .inl h, q⟩
theorem r_list_ofT {S : List V → Prop} (h : SqT K H a xs) (q : S xs) :
    ∃ p ys, [V.ref a] = [V.ref p] ∧ (SqL K H p ys ∨ SqT K H p ys) ∧ S ys :=
  ⟨a, xs, rfl, .inr h, q⟩
theorem r_size {R : Prop} (h : xs.length ≤ 100000) (q : R) : xs.length ≤ sizeLine ∧ R :=
  ⟨Nat.le_trans h (by decide), q⟩
end

/-! ### the law's source of drawn numbers -/
/-- the source at a: the script's copy at la, the place, what is left of a great cell, a state, a count -/
structure Src (H : Hp) (a la : Addr) : Prop where
  ne : la ≠ a
  ex : ∃ (ns : List Int) (pos : Nat) (rest st n : Int),
    H a = some (.lst [.ref la, .int pos, .int rest, .int st, .int n]) ∧
    H la = some (.lst (ns.map V.int)) ∧ pos ≤ ns.length ∧ 0 ≤ rest ∧ 0 ≤ st ∧ st < 2147483629
section
variable {H H' : Hp} {a la D : Addr} {o : HO}
theorem Src.apart (h : Src H a la) (n : H D = none) : D ≠ a ∧ D ≠ la := by
  obtain ⟨ne, ns, pos, rest, st, k, h1, h2, _⟩ := h
  exact ⟨(ne_of_none h1 n).symm, (ne_of_none h2 n).symm⟩
theorem Src.upd (h : Src H a la) (n : D ≠ a ∧ D ≠ la) : Src (upd H D o) a la := by
  obtain ⟨ne, ns, pos, rest, st, k, h1, h2, r⟩ := h
  exact ⟨ne, ns, pos, rest, st, k, at_ne n.1.symm h1, at_ne n.2.symm h2, r⟩
theorem Src.new (h : Src H a la) (n : H D = none) : Src (L2.upd H D o) a la := h.upd (h.apart n)
theorem Src.ext (h : Src H a la) (e : Same H H') : Src H' a la := by
  obtain ⟨ne, ns, pos, rest, st, k, h1, h2, r⟩ := h
  exact ⟨ne, ns, pos, rest, st, k, e _ _ h1, e _ _ h2, r⟩
theorem Src.at (h : Src H a la) : ∃ o, H a = some o := by
  obtain ⟨ne, ns, pos, rest, st, k, h1, h2, r⟩ := h
  exact ⟨_, h1⟩
theorem Kp.set (q : Kp a H H') (n : H D = none) : Kp a H (L2.upd H' D o) := fun b u e ne => by
  rw [upd_ne (ne_of_none e n)]
  exact q b u e ne
theorem Kp.same (q : Kp a H H') {H2 : Hp} (e : Same H' H2) : Kp a H H2 :=
  fun b u z ne => e b u (q b u z ne)
end
end GX

set_option Elab.async false
set_option linter.all false
set_option maxRecDepth 100000
set_option maxHeartbeats 4000000
namespace GX
open PySem L2 PySem.Spec PyProof.Rows
section
variable {X : Cx} {CX : CXT} {k : Nat} {f C : Addr} {fd : FuncData} {ps : List Str} {sp : Sp}
  {dvs : List V} {ds : List Value} {E : XK} {x m : Str} {p pos apos : Pos} {e o : Expr}
  {es : List Expr} {ta : TE} {t : TA}
/-- o.m(e, ..) -/
theorem pe_methG {pl : Sem Bool} (he : PE X o ta) (c : Cls X.K C) (hm : Meth X.K C m f)
    (F : FnG X.prog X.w X.K X.mg X.base CX k f fd ps sp) (hG : X.A.guards = some [])
    (hr : Room k X.A) (hb : Binds X.K fd ps ds) (hd : Vals dvs ds) (hx : Passes CX X E)
    (ha : PA X (e :: es) t)
    (hst : starEach (e :: es) X.env = (false, eval e X.env) :: starEach es X.env := by rfl)
    (hpl : (backTo pos (starEach es X.env)).any (·.1) = false := by rfl)
    (ht : eval (.Call (.Attribute o m apos) (e :: es) [] pos) X.env = (do
      let ov ← eval o X.env
      standAt apos.atName
      let (g, fst) ← holding [ov] (getMethod ov m pl)
      callWith pos g fst (backTo pos (starEach (e :: es) X.env))
        (backToKw pos (keywordEach [] X.env))) := by rfl) :
    PE X (.Call (.Attribute o m apos) (e :: es) [] pos) (tMeth C m sp dvs E ta t) := by
  constructor
  intro pins s σ H Q I h
  refine PySem.W.methodCall_KW (pl := pl) (thn (he.run pins s σ H _ I h) ?_) ht
  rintro u s1 ⟨y, H1, I1, ry, a, dx, fs, rfl, ea, l, q⟩
  obtain rfl : u = Value.ref a := ry
  refine getmeth_ok I1 ea c hm l ?_
  refine PySem.W.callWith_K (first := [.ref a]) (h₀ := X.base) I.ok.mod.kin hm.kp ?_ hst hpl
  refine thn (ha.run pos pins s1 σ H1 _ I1 q) ?_
  rintro us s2 ⟨vs, H2, I2, r, q2⟩
  exact ⟨I2.kIn, run_fnG (us := .ref a :: us) (vs := .ref a :: vs) F hG hr hb hd hx I2
    (.cons rfl r) q2⟩
/-- o.m() -/
theorem pe_meth0G {pl : Sem Bool} (he : PE X o ta) (c : Cls X.K C) (hm : Meth X.K C m f)
    (F : FnG X.prog X.w X.K X.mg X.base CX k f fd ps sp) (hG : X.A.guards = some [])
    (hr : Room k X.A) (hb : Binds X.K fd ps ds) (hd : Vals dvs ds) (hx : Passes CX X E)
    (ht : eval (.Call (.Attribute o m apos) [] [] pos) X.env = (do
      let ov ← eval o X.env
      standAt apos.atName
      let (g, fst) ← holding [ov] (getMethod ov m pl)
      callWith pos g fst (backTo pos (starEach [] X.env))
        (backToKw pos (keywordEach [] X.env))) := by rfl) :
    PE X (.Call (.Attribute o m apos) [] [] pos) (tMeth C m sp dvs E ta tNil) := by
  constructor
  intro pins s σ H Q I h
  refine PySem.W.methodCall_KW (pl := pl) (thn (he.run pins s σ H _ I h) ?_) ht
  rintro u s1 ⟨y, H1, I1, ry, a, dx, fs, rfl, ea, l, q⟩
  obtain rfl : u = Value.ref a := ry
  refine getmeth_ok I1 ea c hm l ?_
  exact PySem.W.callWith_K0 (first := [.ref a]) I1.kIn hm.kp
    (run_fnG (us := [.ref a]) (vs := [.ref a]) F hG hr hb hd hx I1 (.cons rfl .nil) q)

theorem guards_make {A : Around} {C : Addr} {us : List Value} {kw : List (Str × Value)}
    (h : A.guards = some []) :
    (A.under (.builtin "type.__call__" ⟨.ref C :: us, kw⟩)).guards = some [] := by
  first
    | exact h
    | simpa [Around.under, Code.guards, Code.isGuard, pushGuards, guardIds] using h

theorem run_makeG {pins : List (Addr × Obj)} {σ : L2.St} {H : Hp} {s : Shared} {Q : VK}
    {us : List Value} {vs : List V} (M : Mk X.K C f)
    (F : FnG X.prog X.w X.K X.mg X.base CX k f fd ps sp) (hG : X.A.guards = some [])
    (hr : Room (k + 1) X.A) (hb : Binds X.K fd ps ds) (hd : Vals dvs ds)
    (hx : Passes CX X E) (I : Inv X pins σ H s) (r : Vals vs us)
    (h : ∀ x dx, H x = none → H dx = none → dx ≠ x → sp (.ref x :: (vs ++ dvs))
      (upd (upd H dx (.own x)) x (.ins C dx [])) (fun v H2 => v = .non ∧ Q (.ref x) H2) E) :
    wpAny (model X.prog X.w) X.A (call (.ref C) us) (EP X pins σ Q) X.xe s := by
  let d0 := s.heap.objs.size
  have hq := h (d0 + 1) d0 (I.hok.fresh (Nat.le_succ _)) (I.hok.fresh (Nat.le_refl _))
    (Nat.ne_of_lt (Nat.lt_succ_self _))
  have I2 := Inv.made (C := C) I
  have r2 : Vals (V.ref (d0 + 1) :: (vs ++ dvs)) (Value.ref (d0 + 1) :: (us ++ ds)) :=
    .cons rfl (r.append hd)
  have hl : (Value.ref (d0 + 1) :: us ++ ds).length = ps.length := by
    rw [← F.len _ _ _ _ hq]
    exact r2.length.symm
  have z := F.run _ X.stack _ _ ⟨Value.ref (d0 + 1) :: us, []⟩ (Value.ref (d0 + 1) :: (us ++ ds))
    _ _ E (guards_make hG) (hr.make C us []) (I2.env0.make C us [])
    (hb _ (Value.ref (d0 + 1) :: us) I2.kIn hl) r2 hq
  refine wpAny_call (make_map (f := f) I.kIn M.makes M.init (beq_iff_eq.mp M.fn)
    (codeAny_mono z ?_))
  intro r s' hq'
  match r, hq' with
  | .error e, hq' => exact hx pins σ _ _ e s' I2 hq'
  | .ok (.ret u), hq' =>
    obtain ⟨v, H', I3, rv, ev, q3⟩ := I2.after hq'
    subst ev
    exact ⟨rv, ⟨V.ref (d0 + 1), H', I3, rfl, q3⟩⟩

theorem pe_makeG (M : Mk X.K C f) (F : FnG X.prog X.w X.K X.mg X.base CX k f fd ps sp)
    (hG : X.A.guards = some []) (hr : Room (k + 1) X.A) (hg : Gl X x)
    (hm : X.mg x = some (.ref C)) (hb : Binds X.K fd ps ds) (hd : Vals dvs ds)
    (hx : Passes CX X E) (ha : PA X (e :: es) t)
    (hdb : (x == ("__debug__" : Str)) = false := by decide)
    (he : starEach (e :: es) X.env = (false, eval e X.env) :: starEach es X.env := by rfl)
    (hpl : (backTo pos (starEach es X.env)).any (·.1) = false := by rfl) :
    PE X (.Call (.Name x p) (e :: es) [] pos) (tMake C sp dvs E t) := by
  constructor
  intro pins s σ H Q I h
  refine wpAny_Call_Name_kw (ld_glob I hg hm ?_ hdb)
  refine PySem.W.callWith_K (h₀ := X.base) I.ok.mod.kin M.kp ?_ he hpl
  refine thn (ha.run pos pins s σ H _ I h) ?_
  rintro us s1 ⟨vs, H1, I1, r, q⟩
  exact ⟨I1.kIn, run_makeG M F hG hr hb hd hx I1 r q⟩
end

/-! ### readings: fields, methods, dicts -/
section
variable {K : PySem.W.Frag} {σ : L2.St} {H : Hp} {Q : VK} {D : Ends} {ta tb tv te : TE}
  {a C dx : Addr} {fs : List (Str × V)} {f m : Str} {v x y : V} {sp : Sp} {dvs : List V}
  {E : XK} {t : TA}
theorem r_fld (h : ta σ H fun x H1 => ∃ a C dx fs v, x = .ref a ∧ H1 a = some (.ins C dx fs) ∧
    Cls K C ∧ NoAttr K C f ∧ fs.lookup f = some v ∧ Q v H1) : tFld K ta f σ H Q := h
theorem r_fldA {S : V → Prop} (ho : H a = some (.ins C dx fs)) (hc : Cls K C)
    (hn : NoAttr K C f) (hl : fs.lookup f = some v) (q : S v) :
    ∃ b C dx fs v, V.ref a = .ref b ∧ H b = some (.ins C dx fs) ∧ Cls K C ∧ NoAttr K C f ∧
      fs.lookup f = some v ∧ S v := ⟨a, C, dx, fs, v, rfl, ho, hc, hn, hl, q⟩
theorem r_sfld (h : tv σ H fun y H1 => ta σ H1 fun x H2 => ∃ a C dx fs, x = .ref a ∧
    H2 a = some (.ins C dx fs) ∧ Cls K C ∧ NoAttr K C f ∧ fs.length < 1000 ∧
    D.nx σ (upd H2 a (.ins C dx (putF f y fs)))) : sFld K ta tv f D σ H := h
theorem r_meth (h : ta σ H fun x H1 => ∃ a dx fs, x = .ref a ∧ H1 a = some (.ins C dx fs) ∧
    fs.lookup m = none ∧ t σ H1 fun vs H2 => sp (x :: (vs ++ dvs)) H2 Q E) :
    tMeth C m sp dvs E ta t σ H Q := h
theorem r_methA {S : Prop} (ho : H a = some (.ins C dx fs)) (hl : fs.lookup m = none) (q : S) :
    ∃ b dx fs, V.ref a = .ref b ∧ H b = some (.ins C dx fs) ∧ fs.lookup m = none ∧ S :=
  ⟨a, dx, fs, rfl, ho, hl, q⟩
theorem r_make (h : t σ H fun vs H1 => ∀ x dx, H1 x = none → H1 dx = none → dx ≠ x →
    sp (.ref x :: (vs ++ dvs)) (upd (upd H1 dx (.own x)) x (.ins C dx []))
      (fun v H2 => v = .non ∧ Q (.ref x) H2) E) : tMake C sp dvs E t σ H Q := h
theorem r_din (h : tb σ H fun y H1 => ta σ H1 fun x H2 => ∃ a o, x = .ref a ∧ DGet H2 a y o ∧
    Q (.bl o.isSome) H2) : tDIn tb ta σ H Q := h
theorem r_dnin (h : tb σ H fun y H1 => ta σ H1 fun x H2 => ∃ a o, x = .ref a ∧ DGet H2 a y o ∧
    Q (.bl (!o.isSome)) H2) : tDNotIn tb ta σ H Q := h
theorem r_dget (h : ta σ H fun x H1 => tb σ H1 fun y H2 => ∃ a v, x = .ref a ∧
    DGet H2 a y (some v) ∧ Q v H2) : tDGet ta tb σ H Q := h
theorem r_dput (h : tv σ H fun v H1 => ta σ H1 fun x H2 => tb σ H2 fun y H3 =>
    ∃ a H4, x = .ref a ∧ DPut H3 a y v H4 ∧ D.nx σ H4) : sDPut ta tb tv D σ H := h
/-- whether a text's key is there -/
theorem r_inK {S : Option V → Prop} {kvs : List (Key × V)} {z : Str} (h : H a = some (.dK kvs))
    (q : S (valV kvs (Sum.inr z))) :
    ∃ b o, V.ref a = .ref b ∧ DGet H b (.str z) o ∧ S o :=
  ⟨a, _, rfl, DGet.k (k := Sum.inr z) h, q⟩
theorem r_getK {S : V → Prop} {kvs : List (Key × V)} {z : Str} (h : H a = some (.dK kvs))
    (hv : valV kvs (Sum.inr z) = some v) (q : S v) :
    ∃ b v, V.ref a = .ref b ∧ DGet H b (.str z) (some v) ∧ S v :=
  ⟨a, v, rfl, by rw [← hv]; exact DGet.k (k := Sum.inr z) h, q⟩
theorem r_putK {S : Hp → Prop} {kvs : List (Key × V)} {z : Str} (h : H a = some (.dK kvs))
    (hl : kvs.length ≤ 100000) (q : S (upd H a (.dK (putK kvs (Sum.inr z) v)))) :
    ∃ b H4, V.ref a = .ref b ∧ DPut H b (.str z) v H4 ∧ S H4 :=
  ⟨a, _, rfl, DPut.k (k := Sum.inr z) h (Nat.lt_of_le_of_lt hl (by decide)), q⟩
end
end GX

set_option Elab.async false
set_option linter.all false
set_option maxRecDepth 100000
set_option maxHeartbeats 4000000
namespace GX
open PySem L2 PySem.Spec
section
variable {K : PySem.W.Frag} {σ : L2.St} {H H' : Hp} {Q : VK} {D : Ends} {a b d p : Addr}
  {xs ys : List V} {v : V} {n : Nat} {t : TG} {u : TGs} {R : L2.St → Hp → Prop}
theorem r_gtup {ts : TGs} (h : SqT K H a xs) (hl : xs.length = n) (q : ts xs σ H R) :
    gTup K n ts (.ref a) σ H R := ⟨a, xs, rfl, h, hl, q⟩
theorem r_gcons {r : List V} (q : t v σ H fun σ' H' => u r σ' H' R) : gCons t u (v :: r) σ H R :=
  ⟨v, r, rfl, q⟩
theorem r_gnil (q : R σ H) : gNil [] σ H R := ⟨rfl, q⟩
theorem r_par {i j : Nat} {ta : TA} (h : ta σ H fun vs H1 => ∃ v w, vs = [v, w] ∧
    D.nx ((σ.set i (some v)).set j (some w)) H1) : tPar i j ta D σ H := h
theorem r_pr {S : V → V → Prop} {x y : V} (q : S x y) : ∃ v w, [x, y] = [v, w] ∧ S v w :=
  ⟨x, y, rfl, q⟩
theorem r_lockE {te : TE} {o : HO} (h : H d = some o) (mu : Mut (some o))
    (q : ∀ od, te σ (upd H d (.frz od o)) fun v H' => H' d = some (.frz od o) ∧ Q v (upd H' d o)) :
    tLockE te σ H Q := ⟨d, o, h, mu, q⟩
theorem r_tuple_ofT {S : Addr → Hp → Prop} {S' : List V → Prop} (h : SqT K H a xs) (q : Q (.ref a) H) :
    ∃ p ys, [V.ref a] = [.ref p] ∧ ((SqL K H p ys ∧ ∀ l, H l = none → Q (.ref l) (upd H l (.tup ys))) ∨
      (SqT K H p ys ∧ Q (.ref p) H)) := ⟨a, xs, rfl, .inr ⟨h, q⟩⟩
theorem r_tuple_ofL (h : SqL K H a xs) (q : ∀ l, H l = none → Q (.ref l) (upd H l (.tup xs))) :
    ∃ p ys, [V.ref a] = [.ref p] ∧ ((SqL K H p ys ∧ ∀ l, H l = none → Q (.ref l) (upd H l (.tup ys))) ∨
      (SqT K H p ys ∧ Q (.ref p) H)) := ⟨a, xs, rfl, .inl ⟨h, q⟩⟩

end
/-! ### the rules with the written part said -/
section
variable {X : Cx} {K : PySem.W.Frag} {o e e2 tg : Expr} {es elts : List Expr} {ta : TA} {te to tl tv : TE} {f : Str} {pos pos' p apos cpos tpos : Pos} {kk n : Nat} {id T : String}
def rLenQ (K : PySem.W.Frag) : List V → Hp → VK → Prop := fun xs H Q => ∃ p ys, xs = [.ref p] ∧ (SqL K H p ys ∨ SqT K H p ys) ∧ Q (.int ys.length) H
def rLenG (K : PySem.W.Frag) : List V → Hp → VK → Prop := fun xs H Q => ∃ x n, xs = [x] ∧ LenV K x H n ∧ Q (.int n) H
def rListOf (K : PySem.W.Frag) : List V → Hp → VK → Prop := fun xs H Q => ∃ p ys, xs = [.ref p] ∧ (SqL K H p ys ∨ SqT K H p ys) ∧ ∀ l, H l = none → Q (.ref l) (upd H l (.lst ys))
def rTupOf (K : PySem.W.Frag) : List V → Hp → VK → Prop := fun xs H Q => ∃ p ys, xs = [.ref p] ∧ ((SqL K H p ys ∧ ∀ l, H l = none → Q (.ref l) (upd H l (.tup ys))) ∨ (SqT K H p ys ∧ Q (.ref p) H))
def rInsert : V → List V → Hp → VK → Prop := fun x vs H Q => ∃ (l : Addr) (xs : List V) (i : Int) (y : V), x = .ref l ∧ vs = [.int i, y] ∧ H l = some (.lst xs) ∧ xs.length < sizeLine ∧ 0 ≤ i ∧ i < 2 ^ 63 ∧
    Q .non (upd H l (.lst (xs.take i.toNat ++ [y] ++ xs.drop i.toNat)))
abbrev rJoin (K : PySem.W.Frag) : V → List V → Hp → VK → Prop := fun x xs H Q => ∃ a p, ∃ ys : List Str, x = .str a ∧ xs = [.ref p] ∧ (SqL K H p (ys.map V.str) ∨ SqT K H p (ys.map V.str)) ∧
      (ys.map (·.length)).sum + ys.length * a.length ≤ 16777216 ∧ Q (.str (Txt.join a ys)) H
theorem pi_listK (hK : X.K = K) (h : PE X e tl) : PI X tg e (iList K tl) := hK ▸ pi_list h
theorem pi_tupK (hK : X.K = K) (h : PE X e tl) : PI X tg e (iTup K tl) := hK ▸ pi_tup h
theorem pi_enumK (hK : X.K = K) (hg : Gl X "enumerate") (hm : X.mg "enumerate" = none) (ha : PA X [e] ta) (hs : starEach [e] X.env = [(false, eval e X.env)] := by rfl) :
    PI X (.Tuple elts kk tpos) (.Call (.Name "enumerate" p) [e] [] pos) (iEnum K ta) := hK ▸ pi_enum hg hm ha hs
theorem pi_zipK (hK : X.K = K) (hg : Gl X "zip") (hm : X.mg "zip" = none) (ha : PA X [e, e2] ta) (hs : starEach [e, e2] X.env = (false, eval e X.env) :: starEach [e2] X.env := by rfl)
    (hpl : (backTo pos (starEach [e2] X.env)).any (·.1) = false := by rfl) : PI X (.Tuple elts kk tpos) (.Call (.Name "zip" p) [e, e2] [] pos) (iZip K ta) := hK ▸ pi_zip hg hm ha hs hpl
theorem pg_tupK {t : TGs} (hK : X.K = K) (hc : X.calm = true) (h : PGs X es t) (hn : (assignEach es X.env).length = n := by rfl) (hst : (assignEach es X.env).findIdx? (·.1) = none := by rfl) :
    PG X (.Tuple es kk pos) (gTup K n t) := hK ▸ pg_tup hc h hn hst
theorem pe_fldK (hK : X.K = K) (h : PE X e te) (hb : attributeBase e f X.env (eval e X.env) = eval e X.env) : PE X (.Attribute e f pos) (tFld K te f) := hK ▸ pe_fld h hb
theorem ps_fldK {value : Expr} (hK : X.K = K) (ha : PE X o to) (hv : PE X value tv) (hs : swapsWith value (some (.Attribute o f pos')) pos.line X.env = pure false) :
    PS X (.Assign [.Attribute o f pos'] value pos) (sFld K to tv f) := hK ▸ ps_fld ha hv hs
theorem op_inK (hK : X.K = K) : OpR X (compareOp .In) (rIn K false) := hK ▸ op_in_seq
theorem op_ninK (hK : X.K = K) : OpR X (compareOp .NotIn) (rIn K true) := hK ▸ op_notIn_seq
theorem ix_listK (hK : X.K = K) : IxR X (rIxL K) := hK ▸ ix_list
theorem ix_tupK (hK : X.K = K) : IxR X (rIxT K) := hK ▸ ix_tup
theorem ix_seqK (hK : X.K = K) : IxR X (rIx K) := hK ▸ ix_seq
theorem sl_listK (hK : X.K = K) : SlR X (rSlL K) := hK ▸ sl_list
theorem sl_tupK (hK : X.K = K) : SlR X (rSlT K) := hK ▸ sl_tup
theorem call_lenQ (hK : X.K = K) : CallR X (.builtin "len") (rLenQ K) := hK ▸ call_len_seq
theorem call_lenG (hK : X.K = K) : CallR X (.builtin "len") (rLenG K) := hK ▸ call_len
theorem call_listK (hK : X.K = K) : CallR X (.type "list") (rListOf K) := hK ▸ call_list_of
theorem call_tupleK (hK : X.K = K) : CallR X (.type "tuple") (rTupOf K) := hK ▸ call_tuple_of
theorem cr_allK (hK : X.K = K) (hc : X.calm = true) : CallR X (.builtin "all") (rAll K) := hK ▸ cr_all hc
theorem cr_anyK (hK : X.K = K) (hc : X.calm = true) : CallR X (.builtin "any") (rAny K) := hK ▸ cr_any hc
theorem cr_sumK (hK : X.K = K) (hc : X.calm = true) : CallR X (.builtin "sum") (rSum K) := hK ▸ cr_sum hc
theorem op_eqDK (hK : X.K = K) (hu : X.A.units + 64 < cLine) : OpR X (compareOp .Eq) (rEqD K) := hK ▸ op_eqD hu
theorem op_neDK (hK : X.K = K) (hu : X.A.units + 64 < cLine) : OpR X (compareOp .NotEq) (rNeD K) := hK ▸ op_neD hu
theorem op_catTK (hK : X.K = K) : OpR X (binaryOp .Add) (rCatT K) := hK ▸ op_catT
theorem units180 {k : Nat} {A : Around} (r : Room k A) : A.units + 180 < cLine := by have := r.un; omega
theorem call_reprK (hK : X.K = K) (hG : X.A.guards = some []) (hu : X.A.units + 180 < cLine) : CallR X (.builtin "repr") (rRepr K) := hK ▸ call_reprD hG hu
theorem pe_joinK (hK : X.K = K) (ho : PE X o to) (he : PE X e te) (hs : starEach [e] X.env = [(false, eval e X.env)] := by rfl) (hbase : attributeBase o "join" X.env (eval o X.env) = eval o X.env := by rfl) (hline : (apos.endLine == pos.line) = true := by rfl) :
    PE X (.Call (.Attribute o "join" apos) [e] [] pos) (tM1 (rJoin K) to te) := hK ▸ pe_join ho he hs hbase hline
theorem pe_bmK {name : Str} {r : V → List V → Hp → VK → Prop} (hK : X.K = K) (pa : PlainAttrs T) (slot : Slot T name id) (hty : typeOf (.builtin id) = pure (.type "method_descriptor")) (hm : MtR X id r) (ho : PE X o to) (ha : PA X (e :: es) ta)
    (hbase : attributeBase o name X.env (eval o X.env) = eval o X.env := by rfl)
    (hfew : ((backTo cpos (starEach (e :: es) X.env)).all (fun x => !x.1) && (backToKw cpos (keywordEach [] X.env)).all (fun x => x.1.isSome)
      && decide ((e :: es).length + ([] : List Keyword).length + (if ([] : List Keyword).isEmpty then 0 else 1) < 30)) = true := by rfl)
    (hline : (apos.endLine == cpos.line) = true := by rfl) (hs : starEach (e :: es) X.env = (false, eval e X.env) :: starEach es X.env := by rfl) (hplain : (backTo cpos (starEach es X.env)).any (·.1) = false := by rfl) :
    PE X (.Call (.Attribute o name apos) (e :: es) [] cpos) (tBM K T r to ta) := hK ▸ pe_bm pa slot hty hm ho ha hbase hfew hline hs hplain
theorem mt_ins : MtR X "list.insert" rInsert := mt_insert
theorem mt_app : MtR X "list.append" rAppend := mt_append
theorem mt_ext : MtR X "list.extend" rExtend := mt_extend
end
section
variable {K : PySem.W.Frag} {H : Hp} {Q : VK} {a : Addr} {xs : List V} {y : V} {i : Int}
theorem r_lenQ (h : SqL K H a xs) (q : Q (.int xs.length) H) : rLenQ K [.ref a] H Q := ⟨a, xs, rfl, .inl h, q⟩
theorem r_lenQT (h : SqT K H a xs) (q : Q (.int xs.length) H) : rLenQ K [.ref a] H Q := ⟨a, xs, rfl, .inr h, q⟩
def rLenD : List V → Hp → VK → Prop := fun xs H Q => ∃ a kvs, xs = [V.ref a] ∧ H a = some (.dK kvs) ∧ Q (.int kvs.length) H
theorem call_lenDK {X : Cx} : CallR X (.builtin "len") rLenD := call_lenD
theorem r_lenD {kvs : List (Key × V)} (h : H a = some (.dK kvs)) (q : Q (.int kvs.length) H) : rLenD [.ref a] H Q := ⟨a, kvs, rfl, h, q⟩
theorem r_listOf (h : SqL K H a xs) (q : ∀ l, H l = none → Q (.ref l) (upd H l (.lst xs))) : rListOf K [.ref a] H Q := ⟨a, xs, rfl, .inl h, q⟩
theorem r_listOfT (h : SqT K H a xs) (q : ∀ l, H l = none → Q (.ref l) (upd H l (.lst xs))) : rListOf K [.ref a] H Q := ⟨a, xs, rfl, .inr h, q⟩
theorem r_tupOfT (h : SqT K H a xs) (q : Q (.ref a) H) : rTupOf K [.ref a] H Q := ⟨a, xs, rfl, .inr ⟨h, q⟩⟩
theorem r_tupOfL (h : SqL K H a xs) (q : ∀ l, H l = none → Q (.ref l) (upd H l (.tup xs))) : rTupOf K [.ref a] H Q := ⟨a, xs, rfl, .inl ⟨h, q⟩⟩
theorem r_insert (h : H a = some (.lst xs)) (hz : xs.length ≤ 1000000) (h0 : 0 ≤ i ∧ i < 2 ^ 63) (q : Q .non (upd H a (.lst (xs.take i.toNat ++ [y] ++ xs.drop i.toNat)))) :
    rInsert (.ref a) [.int i, y] H Q := ⟨a, xs, i, y, rfl, rfl, h, Nat.lt_of_le_of_lt hz (by decide), h0.1, h0.2, q⟩
theorem r_in {neg : Bool} {x : V} (h : SqL K H a xs) (hx : flatV x = true) (ha : xs.all flatV = true) (q : Q (.bl (if neg then !inV x xs else inV x xs)) H) : rIn K neg x (.ref a) H Q :=
  ⟨a, xs, rfl, .inl h, hx, ha, q⟩
theorem r_inT {neg : Bool} {x : V} (h : SqT K H a xs) (hx : flatV x = true) (ha : xs.all flatV = true) (q : Q (.bl (if neg then !inV x xs else inV x xs)) H) : rIn K neg x (.ref a) H Q :=
  ⟨a, xs, rfl, .inr h, hx, ha, q⟩
theorem r_ixsL {v : V} (h : SqL K H a xs) (e : atI xs i = some v) (q : Q v H) : rIx K (.ref a) (.int i) H Q := .inl ⟨a, xs, i, v, rfl, rfl, h, e, q⟩
theorem r_ixsT {v : V} (h : SqT K H a xs) (e : atI xs i = some v) (q : Q v H) : rIx K (.ref a) (.int i) H Q := .inr (.inl ⟨a, xs, i, v, rfl, rfl, h, e, q⟩)
theorem r_all {bs : List Bool} (h : H a = some (.lst (bs.map V.bl))) (q : Q (.bl (bs.all id)) H) : rAll K [.ref a] H Q := ⟨a, bs, rfl, SqL.of h, q⟩
theorem r_any {bs : List Bool} (h : H a = some (.lst (bs.map V.bl))) (q : Q (.bl (bs.any id)) H) : rAny K [.ref a] H Q := ⟨a, bs, rfl, SqL.of h, q⟩
theorem flat_strs (zs : List Str) : (zs.map V.str).all flatV = true := by
  rw [List.all_map]
  exact List.all_eq_true.mpr fun _ _ => rfl
theorem inV_strs (z : Str) (zs : List Str) : inV (.str z) (zs.map V.str) = decide (z ∈ zs) := by
  unfold inV
  rw [List.any_map]
  by_cases h : z ∈ zs
  · rw [decide_eq_true h]
    exact List.any_eq_true.mpr ⟨z, h, by simp [eqV]⟩
  · rw [decide_eq_false h]
    refine List.any_eq_false.mpr fun y hy => ?_
    have : ¬ y = z := fun q => h (q ▸ hy)
    simp [eqV, this]
end

section
variable {K : PySem.W.Frag} {σ : L2.St} {H H' : Hp} {Q : VK} {D : Ends} {a b d p : Addr}
  {xs ys : List V} {v : V} {n : Nat} {t : TG} {u : TGs} {R : L2.St → Hp → Prop}
/-- a while's state, its measure below m -/
def WhN (W : Nat → L2.St → Hp → Prop) (m : Nat) (σ : L2.St) (H : Hp) : Prop := ∃ m', m' < m ∧ W m' σ H
theorem r_while {c : TT} {tb : TS} (W : Nat → L2.St → Hp → Prop) (m0 : Nat) (h0 : W m0 σ H)
    (hs : ∀ m σ H, W m σ H → c σ H fun b H1 => if b = true then
      ∃ N : L2.St → Hp → Prop, (∀ σ' H', N σ' H' → ∃ m', m' < m ∧ W m' σ' H') ∧
        tb { D with nx := N, ct := N, bk := D.nx } σ H1 else D.nx σ H1) : tWhile c tb D σ H := ⟨W, ⟨m0, h0⟩, hs⟩
theorem wh_go {W : Nat → L2.St → Hp → Prop} {m : Nat} {tb : TS}
    (h : tb { D with nx := WhN W m, ct := WhN W m, bk := D.nx } σ H) :
    ∃ N : L2.St → Hp → Prop, (∀ σ' H', N σ' H' → ∃ m', m' < m ∧ W m' σ' H') ∧
        tb { D with nx := N, ct := N, bk := D.nx } σ H := ⟨_, fun _ _ z => z, h⟩
/-! ### the heap without one address -/
def hid (a : Addr) (H : Hp) : Hp := fun b => if b = a then none else H b
theorem hid_at (h : b ≠ a) : hid a H b = H b := if_neg h
theorem hid_self : hid a H a = none := if_pos rfl
theorem hid_le : Same (hid a H) H := fun b o e => by
  by_cases h : b = a
  · subst h
    rw [hid_self] at e
    cases e
  · rw [hid_at h] at e
    exact e
theorem Kp.le (k : Kp a H H') : Same (hid a H) (hid a H') := fun b o e => by
  by_cases h : b = a
  · subst h
    rw [hid_self] at e
    cases e
  · rw [hid_at h] at e ⊢
    exact k b o e h
theorem hid_none (h : H b = none) : hid a H b = none := by
  by_cases e : b = a
  · subst e
    exact hid_self
  · rw [hid_at e]
    exact h
theorem Same.hid (s : Same H H') : Same (hid a H) (GX.hid a H') := fun b o e => by
  by_cases h : b = a
  · subst h
    rw [hid_self] at e
    cases e
  · rw [hid_at h] at e ⊢
    exact s b o e
theorem hid_upd (h : p ≠ a) {o : HO} : hid a (upd H p o) = upd (hid a H) p o := by
  funext b
  by_cases e : b = a
  · subst e
    rw [hid_self, upd_ne (fun z => h z.symm), hid_self]
  · rw [hid_at e]
    by_cases f : b = p
    · subst f
      rw [upd_same, upd_same]
    · rw [upd_ne f, upd_ne f, hid_at e]

/-! ### data under a growing heap -/
mutual
theorem Dp.mono (s : Same H H') : ∀ (d : PyData) (v : V), Dp K H v d → Dp K H' v d
  | .none, _, h => by cases h; exact .non
  | .bool b, _, h => by cases h; exact .bl b
  | .int i, _, h => by cases h; exact .int i
  | .str x, _, h => by cases h; exact .str x
  | .list ds, _, h => by
    cases h with
    | lst hs ha => exact .lst (s.seq hs) (DpAll.mono s ds _ ha)
  | .tuple ds, _, h => by
    cases h with
    | tup hs ha => exact .tup (Same.seqT s hs) (DpAll.mono s ds _ ha)
  | .dict _, _, h => by cases h
theorem DpAll.mono (s : Same H H') : ∀ (ds : List PyData) (vs : List V), DpAll K H vs ds → DpAll K H' vs ds
  | [], _, h => by cases h; exact .nil
  | d :: ds, _, h => by
    cases h with
    | cons h1 h2 => exact .cons (Dp.mono s d _ h1) (DpAll.mono s ds _ h2)
end
theorem dp_tup {ds : List PyData} (h : Dp K H v (.tuple ds)) : ∃ p xs, v = .ref p ∧ SqT K H p xs ∧ DpAll K H xs ds := by
  cases h with
  | tup hs ha => exact ⟨_, _, rfl, hs, ha⟩
theorem dp_lst {ds : List PyData} (h : Dp K H v (.list ds)) : ∃ p xs, v = .ref p ∧ SqL K H p xs ∧ DpAll K H xs ds := by
  cases h with
  | lst hs ha => exact ⟨_, _, rfl, hs, ha⟩
theorem dp_all_get {ds : List PyData} : ∀ {vs : List V} {i : Nat} {w : V}, DpAll K H vs ds → vs[i]? = some w →
    ∃ e, ds[i]? = some e ∧ Dp K H w e := by
  intro vs i w h hi
  induction ds generalizing vs i with
  | nil => cases h; cases hi
  | cons e ds ih =>
    cases h with
    | cons h1 h2 =>
      cases i with
      | zero => cases hi; exact ⟨e, rfl, h1⟩
      | succ i => exact ih h2 hi
theorem dp_all_len {ds : List PyData} : ∀ {vs : List V}, DpAll K H vs ds → vs.length = ds.length := by
  induction ds with
  | nil => intro vs h; cases h; rfl
  | cons e ds ih =>
    intro vs h
    cases h with
    | cons h1 h2 => rw [List.length_cons, List.length_cons, ih h2]
theorem dp_all_app {ds es : List PyData} : ∀ {vs ws : List V}, DpAll K H vs ds → DpAll K H ws es → DpAll K H (vs ++ ws) (ds ++ es) := by
  induction ds with
  | nil => intro vs ws h g; cases h; exact g
  | cons e ds ih =>
    intro vs ws h g
    cases h with
    | cons h1 h2 => exact .cons h1 (ih h2 g)
theorem dp_strs (zs : List Str) : DpAll K H (zs.map V.str) (zs.map PyData.str) := by
  induction zs with
  | nil => exact .nil
  | cons z zs ih => exact .cons (.str z) ih
theorem dp_strs_inv : ∀ {zs : List Str} {vs : List V}, DpAll K H vs (zs.map PyData.str) → vs = zs.map V.str := by
  intro zs
  induction zs with
  | nil => intro vs h; cases h; rfl
  | cons z zs ih =>
    intro vs h
    cases h with
    | cons h1 h2 => cases h1; rw [ih h2]; rfl
theorem dp_ints (zs : List Int) : DpAll K H (zs.map V.int) (zs.map PyData.int) := by
  induction zs with
  | nil => exact .nil
  | cons z zs ih => exact .cons (.int z) ih
theorem dp_ints_inv : ∀ {zs : List Int} {vs : List V}, DpAll K H vs (zs.map PyData.int) → vs = zs.map V.int := by
  intro zs
  induction zs with
  | nil => intro vs h; cases h; rfl
  | cons z zs ih =>
    intro vs h
    cases h with
    | cons h1 h2 => cases h1; rw [ih h2]; rfl

/-! ### dicts walked -/
theorem for_K {kvs : List (Key × V)} {o : Obj} {g : TG} {tb : TS} (Pv : Nat → L2.St → Hp → Prop) (h0 : Pv 0 σ H)
    (hG : ∀ i σ H, i ≤ kvs.length → Pv i σ H → H d = some (.frz o (.dK kvs)))
    (hs : ∀ i k w σ H, kvs[i]? = some (k, w) → Pv i σ H → g (kV k) σ H fun σ2 H2 =>
      tb { D with nx := Pv (i + 1), ct := Pv (i + 1), bk := D.nx } σ2 H2)
    (hd : ∀ σ H, Pv kvs.length σ H → D.nx σ H) : ForGo g tb D (Itk d o kvs) σ H :=
  for_go walk_keys Pv h0 hG (fun i x σ H H' hi p y => by
    obtain ⟨rfl, k, w, e, rfl⟩ := y
    exact hs i k w σ H' e p) hd
theorem lc_V {kvs : List (Key × V)} {o : Obj} {g : TG} {tt : TT} {te : TE} {vs : List Nat}
    (Pv : Addr → Nat → List V → Hp → Prop)
    (h0 : ∀ E, H E = none → Pv E 0 [] (upd H E (.lst [])))
    (hG : ∀ E i acc H', i ≤ kvs.length → H E = none → Pv E i acc H' → H' d = some (.frz o (.dK kvs)))
    (hs : ∀ E i acc k x H', kvs[i]? = some (k, x) → H E = none → acc.length ≤ i → H' E = some (.lst acc) →
      Pv E i acc H' → g x (wipe σ vs) H' fun σ2 H3 => wipe σ2 vs = wipe σ vs ∧
      tt σ2 H3 fun b H4 => if b = true then te σ2 H4 fun y H5 =>
        ∃ acc, H5 E = some (.lst acc) ∧ acc.length < sizeLine ∧
          LcIn E (Pv E (i + 1)) (i + 1) (upd H5 E (.lst (acc ++ [y])))
        else LcIn E (Pv E (i + 1)) (i + 1) H4)
    (hd : ∀ E acc H', H E = none → acc.length ≤ kvs.length → Pv E kvs.length acc H' →
      H' E = some (.lst acc) → Q (.ref E) H') : LcGo g tt te vs σ Q (Itd d o kvs) H :=
  lc_go walk_values Pv h0 hG (fun E i acc x H1 H2 hi hE hl hA p y => by
    obtain ⟨rfl, k, e⟩ := y
    exact hs E i acc k x _ e hE hl hA p) hd
theorem lc_I {kvs : List (Key × V)} {o : Obj} {g : TG} {tt : TT} {te : TE} {vs : List Nat}
    (Pv : Addr → Nat → List V → Hp → Prop)
    (h0 : ∀ E, H E = none → Pv E 0 [] (upd H E (.lst [])))
    (hG : ∀ E i acc H', i ≤ kvs.length → H E = none → Pv E i acc H' → H' d = some (.frz o (.dK kvs)))
    (hs : ∀ E i acc k x H' q, kvs[i]? = some (k, x) → H E = none → acc.length ≤ i → H' E = some (.lst acc) →
      Pv E i acc H' → H' q = none → g (.ref q) (wipe σ vs) (upd H' q (.tup [kV k, x])) fun σ2 H3 => wipe σ2 vs = wipe σ vs ∧
      tt σ2 H3 fun b H4 => if b = true then te σ2 H4 fun y H5 =>
        ∃ acc, H5 E = some (.lst acc) ∧ acc.length < sizeLine ∧
          LcIn E (Pv E (i + 1)) (i + 1) (upd H5 E (.lst (acc ++ [y])))
        else LcIn E (Pv E (i + 1)) (i + 1) H4)
    (hd : ∀ E acc H', H E = none → acc.length ≤ kvs.length → Pv E kvs.length acc H' →
      H' E = some (.lst acc) → Q (.ref E) H') : LcGo g tt te vs σ Q (Iti d o kvs) H :=
  lc_go walk_items Pv h0 hG (fun E i acc x H1 H2 hi hE hl hA p y => by
    obtain ⟨q, u, v, rfl, hq, rfl, h1, h2⟩ := y
    obtain ⟨⟨k, w⟩, e⟩ : ∃ kw, kvs[i]? = some kw := ⟨kvs[i], by simp [hi]⟩
    have h1 : (kvs[i]?.map fun kv => kV kv.1) = some u := h1
    have h2 : kvs[i]?.map Prod.snd = some v := h2
    rw [e] at h1 h2
    cases h1
    cases h2
    exact hs E i acc k _ _ q e hE hl hA p hq) hd
theorem r_iVals {td : TE} {S : It → Hp → Prop} (h : td σ H fun x H1 => ∃ d o kvs, x = .ref d ∧ H1 d = some (.frz o (.dK kvs)) ∧ S (Itd d o kvs) H1) :
    iVals td σ H S := h
theorem r_iItems {td : TE} {S : It → Hp → Prop} (h : td σ H fun x H1 => ∃ d o kvs, x = .ref d ∧ H1 d = some (.frz o (.dK kvs)) ∧ S (Iti d o kvs) H1) :
    iItems td σ H S := h
theorem r_dwalk {S : Addr → Obj → List (Key × V) → Prop} {o : Obj} {kvs : List (Key × V)} (h : H d = some (.frz o (.dK kvs))) (q : S d o kvs) :
    ∃ d' o kvs, V.ref d = .ref d' ∧ H d' = some (.frz o (.dK kvs)) ∧ S d' o kvs := ⟨d, o, kvs, rfl, h, q⟩
theorem r_iKeys {td : TE} {S : It → Hp → Prop} (h : td σ H fun x H1 => ∃ d o, x = .ref d ∧ ((∃ kvs, H1 d = some (.frz o (.dK kvs)) ∧ S (Itk d o kvs) H1) ∨
    ∃ kvs, H1 d = some (.frz o (.dT kvs)) ∧ S (Itkt d o kvs) H1)) : iKeys td σ H S := h
theorem r_kwalk {S S' : Addr → Obj → Prop} {o : Obj} {U : List (Key × V) → Addr → Obj → Prop} {kvs : List (Key × V)} (h : H d = some (.frz o (.dK kvs))) (q : U kvs d o) :
    ∃ d' o, V.ref d = .ref d' ∧ ((∃ kvs, H d' = some (.frz o (.dK kvs)) ∧ U kvs d' o) ∨ S d' o) := ⟨d, o, rfl, .inl ⟨kvs, h, q⟩⟩
end
end GX

set_option Elab.async false
set_option linter.all false
set_option maxRecDepth 100000
set_option maxHeartbeats 4000000
namespace GX
open PySem L2 PySem.Spec
theorem snoc_ind {α : Type} {P : List α → Prop} (h0 : P []) (h1 : ∀ l a, P l → P (l ++ [a])) : ∀ l, P l := by
  have r : ∀ l : List α, P l.reverse := by
    intro l
    induction l with
    | nil => exact h0
    | cons a l ih =>
      rw [List.reverse_cons]
      exact h1 _ _ ih
  intro l
  have z := r l.reverse
  rw [List.reverse_reverse] at z
  exact z
/-! ### signatures, as plain data -/
/-- a constructor: its name, its kind, the kinds of its parts -/
abbrev Trip := Str × Str × List Str
def addKind (acc : List Str) (t : Trip) : List Str := if t.2.1 ∈ acc then acc else acc ++ [t.2.1]
def kindsOf (ts : List Trip) : List Str := ts.foldl addKind []
def consOf (ts : List Trip) (k : Str) : List Str := (ts.filter fun t => decide (t.2.1 = k)).map (·.1)
/-- a kind with a finite tree -/
inductive Fint (ts : List Trip) : Str → Prop
  | mk {t : Trip} : t ∈ ts → (∀ p ∈ t.2.2, Fint ts p) → Fint ts t.2.1
theorem kindsOf_app (ts : List Trip) (t : Trip) : kindsOf (ts ++ [t]) = addKind (kindsOf ts) t := by
  unfold kindsOf
  rw [List.foldl_append]
  rfl
theorem mem_kindsOf : ∀ (ts : List Trip) (k : Str), k ∈ kindsOf ts ↔ ∃ t ∈ ts, t.2.1 = k := by
  refine snoc_ind ?_ ?_
  · intro k
    constructor
    · intro h
      cases h
    · rintro ⟨t, h, _⟩
      cases h
  · intro ts t ih k
    rw [kindsOf_app]
    unfold addKind
    split
    · rename_i hm
      rw [ih]
      constructor
      · rintro ⟨u, h1, h2⟩
        exact ⟨u, List.mem_append_left _ h1, h2⟩
      · rintro ⟨u, h1, h2⟩
        rcases List.mem_append.mp h1 with h | h
        · exact ⟨u, h, h2⟩
        · rw [List.mem_singleton.mp h] at h2
          rw [← h2]
          exact (ih _).mp hm
    · rw [List.mem_append, ih, List.mem_singleton]
      constructor
      · rintro (⟨u, h1, h2⟩ | h)
        · exact ⟨u, List.mem_append_left _ h1, h2⟩
        · exact ⟨t, List.mem_append_right _ (List.mem_singleton.mpr rfl), h.symm⟩
      · rintro ⟨u, h1, h2⟩
        rcases List.mem_append.mp h1 with h | h
        · exact .inl ⟨u, h, h2⟩
        · rw [List.mem_singleton.mp h] at h2
          exact .inr h2.symm
theorem nodup_kindsOf : ∀ ts : List Trip, (kindsOf ts).Nodup := by
  refine snoc_ind List.nodup_nil ?_
  · intro ts t ih
    rw [kindsOf_app]
    unfold addKind
    split
    · exact ih
    · rename_i hm
      refine List.nodup_append.mpr ⟨ih, by simp, ?_⟩
      intro a ha b hb e
      rw [List.mem_singleton.mp hb] at e
      exact hm (e ▸ ha)
theorem consOf_app (ts : List Trip) (t : Trip) (k : Str) :
    consOf (ts ++ [t]) k = if t.2.1 = k then consOf ts k ++ [t.1] else consOf ts k := by
  unfold consOf
  rw [List.filter_append, List.map_append]
  by_cases h : t.2.1 = k
  · rw [if_pos h]
    simp [h]
  · rw [if_neg h]
    simp [h]
theorem consOf_none {ts : List Trip} {k : Str} (h : k ∉ kindsOf ts) : consOf ts k = [] := by
  unfold consOf
  rw [List.map_eq_nil_iff, List.filter_eq_nil_iff]
  intro t ht e
  exact h ((mem_kindsOf ts k).mpr ⟨t, ht, of_decide_eq_true e⟩)

/-! ### dicts by a function of their keys -/
theorem val_at {α : Type} (f : α → Str) (v : α → V) : ∀ (ts : List α) (t : α), t ∈ ts → (ts.map f).Nodup →
    valV (ts.map fun t => ((Sum.inr (f t) : Key), v t)) (Sum.inr (f t)) = some (v t) := by
  intro ts t ht nd
  induction ts with
  | nil => cases ht
  | cons a r ih =>
    rw [List.map_cons, List.nodup_cons] at nd
    unfold valV
    rw [List.map_cons, List.find?_cons]
    rcases List.mem_cons.mp ht with e | e
    · subst e
      simp
    · have ne : ¬ (Sum.inr (f a) : Key) = Sum.inr (f t) := fun q => nd.1 (by
        rw [Sum.inr.inj q]
        exact List.mem_map_of_mem e)
      rw [decide_eq_false ne]
      exact ih e nd.2
theorem val_none {α : Type} (f : α → Str) (v : α → V) : ∀ (ts : List α) (z : Str), z ∉ ts.map f →
    valV (ts.map fun t => ((Sum.inr (f t) : Key), v t)) (Sum.inr z) = none := by
  intro ts z hz
  induction ts with
  | nil => rfl
  | cons a r ih =>
    rw [List.map_cons, List.mem_cons, not_or] at hz
    unfold valV
    rw [List.map_cons, List.find?_cons]
    have ne : ¬ (Sum.inr (f a) : Key) = Sum.inr z := fun q => hz.1 (Sum.inr.inj q).symm
    rw [decide_eq_false ne]
    exact ih hz.2
theorem val_some {α : Type} (f : α → Str) (v : α → V) (ts : List α) (z : Str) (nd : (ts.map f).Nodup) :
    (valV (ts.map fun t => ((Sum.inr (f t) : Key), v t)) (Sum.inr z)).isSome = decide (z ∈ ts.map f) := by
  by_cases h : z ∈ ts.map f
  · obtain ⟨t, ht, rfl⟩ := List.mem_map.mp h
    rw [val_at f v ts t ht nd, decide_eq_true h]
    rfl
  · rw [val_none f v ts z h, decide_eq_false h]
    rfl

/-! ### a signature's object -/
def sflds (de dg : Addr) : List (Str × V) := putF "grouped" (.ref dg) (putF "entries" (.ref de) [])
theorem ne_gr : ¬ (("entries" : Str) = "grouped") := by decide +kernel
theorem fl_entries (de dg : Addr) : (sflds de dg).lookup ("entries" : Str) = some (V.ref de) := by
  unfold sflds
  rw [lookup_putF, if_neg ne_gr, lookup_putF, if_pos rfl]
theorem fl_grouped (de dg : Addr) : (sflds de dg).lookup ("grouped" : Str) = some (V.ref dg) := by
  unfold sflds
  rw [lookup_putF, if_pos rfl]
theorem fl_no (de dg : Addr) {m : Str} (h1 : ¬ m = "grouped") (h2 : ¬ m = "entries") : (sflds de dg).lookup m = none := by
  unfold sflds
  rw [lookup_putF, if_neg h1, lookup_putF, if_neg h2]
  rfl
def entD (E : Str → Addr) (ts : List Trip) : List (Key × V) := ts.map fun t => (Sum.inr t.1, V.ref (E t.1))
def grpD (L : Str → Addr) (ts : List Trip) : List (Key × V) := (kindsOf ts).map fun k => (Sum.inr k, V.ref (L k))
/-- a Signature stands at S over the ground G: its own objects are none of G's -/
structure SigIn (G : Hp) (K : PySem.W.Frag) (H : Hp) (C S dx de dg : Addr) (E A L : Str → Addr) (ts : List Trip) : Prop where
  ob : H S = some (.ins C dx (sflds de dg))
  en : H de = some (.dK (entD E ts))
  gr : H dg = some (.dK (grpD L ts))
  ent : ∀ t ∈ ts, SqT K H (E t.1) [.str t.2.1, .ref (A t.1)] ∧ SqT K H (A t.1) (t.2.2.map V.str)
  grp : ∀ k ∈ kindsOf ts, H (L k) = some (.lst ((consOf ts k).map V.str)) ∧ G (L k) = none
  inj : ∀ k ∈ kindsOf ts, ∀ k' ∈ kindsOf ts, L k = L k' → k = k'
  fS : G S = none
  fe : G de = none
  fg : G dg = none
  dn : de ≠ dg
def SigAt (G : Hp) (K : PySem.W.Frag) (H : Hp) (C S : Addr) (ts : List Trip) : Prop :=
  ∃ dx de dg E A L, SigIn G K H C S dx de dg E A L ts
theorem SigIn.mono {G K H H' C S dx de dg E A L ts} (h : SigIn G K H C S dx de dg E A L ts) (s : Same H H') : SigIn G K H' C S dx de dg E A L ts :=
  ⟨s _ _ h.ob, s _ _ h.en, s _ _ h.gr, fun t ht => ⟨Same.seqT s (h.ent t ht).1, Same.seqT s (h.ent t ht).2⟩, fun k hk => ⟨s _ _ (h.grp k hk).1, (h.grp k hk).2⟩,
    h.inj, h.fS, h.fe, h.fg, h.dn⟩
theorem SigAt.mono {G K H H' C S ts} (h : SigAt G K H C S ts) (s : Same H H') : SigAt G K H' C S ts := by
  obtain ⟨dx, de, dg, E, A, L, h⟩ := h
  exact ⟨dx, de, dg, E, A, L, h.mono s⟩
theorem sqT_mut {K : PySem.W.Frag} {H : Hp} {p a : Addr} {o o' : HO} {xs : List V} (h : H p = some o) (n1 : ∀ ys, o ≠ .tup ys) (n2 : ∀ ob u, o ≠ .frz ob u)
    (hs : SqT K H a xs) : SqT K (upd H p o') a xs := by
  rcases hs with (hs | ⟨ob, hs⟩) | hs
  · exact .inl (.inl ((upd_ne (ne_of hs h fun e => n1 _ e.symm)).trans hs))
  · exact .inl (.inr ⟨ob, (upd_ne (ne_of hs h fun e => n2 _ _ e.symm)).trans hs⟩)
  · exact .inr hs
theorem entD_app {E : Str → Addr} {ts : List Trip} {t : Trip} {p : Addr} (nin : t.1 ∉ ts.map (·.1)) :
    entD (fun z => if z = t.1 then p else E z) (ts ++ [t]) = entD E ts ++ [(Sum.inr t.1, V.ref p)] := by
  unfold entD
  rw [List.map_append]
  congr 1
  · refine List.map_congr_left fun u hu => ?_
    have ne : ¬ u.1 = t.1 := fun q => nin (q ▸ List.mem_map_of_mem hu)
    simp only [if_neg ne]
  · show [(Sum.inr t.1, V.ref (if t.1 = t.1 then p else E t.1))] = _
    rw [if_pos rfl]
theorem SigIn.add {G K H H6 C S dx de dg E A L ts} {t : Trip} {p q : Addr} (h : SigIn G K H C S dx de dg E A L ts) (nin : t.1 ∉ ts.map (·.1))
    (hS : H6 S = H S) (hde : H6 de = some (.dK (entD E ts ++ [(Sum.inr t.1, V.ref p)]))) (hp : H6 p = some (.tup [.str t.2.1, .ref q]))
    (hq : SqT K H6 q (t.2.2.map V.str)) (tups : ∀ a xs, SqT K H a xs → SqT K H6 a xs) (L' : Str → Addr) (hdg : H6 dg = some (.dK (grpD L' (ts ++ [t]))))
    (hgrp : ∀ k ∈ kindsOf (ts ++ [t]), H6 (L' k) = some (.lst ((consOf (ts ++ [t]) k).map V.str)) ∧ G (L' k) = none)
    (inj : ∀ k ∈ kindsOf (ts ++ [t]), ∀ k' ∈ kindsOf (ts ++ [t]), L' k = L' k' → k = k') : SigAt G K H6 C S (ts ++ [t]) := by
  refine ⟨dx, de, dg, fun z => if z = t.1 then p else E z, fun z => if z = t.1 then q else A z, L', hS.trans h.ob, ?_, hdg, ?_, hgrp, inj, h.fS, h.fe, h.fg, h.dn⟩
  · rw [entD_app nin]
    exact hde
  · intro u hu
    try dsimp only
    rcases List.mem_append.mp hu with hm | hm
    · have ne : ¬ u.1 = t.1 := fun q => nin (q ▸ List.mem_map_of_mem hm)
      rw [if_neg ne, if_neg ne]
      exact ⟨tups _ _ (h.ent u hm).1, tups _ _ (h.ent u hm).2⟩
    · rw [List.mem_singleton.mp hm, if_pos rfl, if_pos rfl]
      exact ⟨SqT.of hp, hq⟩
/-- which constructors a signature may have -/
structure Good (nm : Str → Bool) (ts : List Trip) : Prop where
  names : ∀ t ∈ ts, nm t.1 = true ∧ nm t.2.1 = true
  nd : (ts.map (·.1)).Nodup
  kinds : (kindsOf ts).length ≤ 4
  cons : ∀ k ∈ kindsOf ts, (consOf ts k).length ≤ 6
  parts : ∀ t ∈ ts, t.2.2.length ≤ 3
  known : ∀ t ∈ ts, ∀ p ∈ t.2.2, p ∈ kindsOf ts
  fin : ∀ k ∈ kindsOf ts, Fint ts k
  few : ts.length ≤ 1000
  short : ∀ t ∈ ts, t.1.length ≤ 1000 ∧ t.2.1.length ≤ 1000
section
variable {σ : L2.St} {H : Hp} {Q : VK} {td ty tx : TE}
theorem r_dsetd (h : td σ H fun x H1 => ∃ a, x = .ref a ∧ IsD H1 a ∧ ty σ H1 fun y H2 => tx σ H2 fun z H3 => ∃ (kvs : List (Key × V)) (k : Key), H3 a = some (.dK kvs) ∧ y = kV k ∧
    kvs.length < sizeLine ∧ (∀ v, valV kvs k = some v → Q v H3) ∧ (valV kvs k = none → Q z (upd H3 a (.dK (putK kvs k z))))) : tDSetd td ty tx σ H Q := h
theorem r_isD {S : Addr → Prop} {a : Addr} {kvs : List (Key × V)} (h : H a = some (.dK kvs)) (q : S a) : ∃ b, V.ref a = .ref b ∧ IsD H b ∧ S b := ⟨a, rfl, .inl ⟨kvs, .inl h⟩, q⟩
end
theorem lock_same {H H' : Hp} {d : Addr} {od : Obj} {o : HO} (s : Same (upd H d (.frz od o)) H') (h : H d = some o) : Same H (upd H' d o) := fun b u e => by
  by_cases hb : b = d
  · subst hb
    rw [upd_same, ← h]
    exact e
  · rw [upd_ne hb]
    exact s b u ((upd_ne hb).trans e)
theorem lock_at {H H' : Hp} {d : Addr} {od : Obj} {o : HO} (s : Same (upd H d (.frz od o)) H') : H' d = some (.frz od o) := s _ _ upd_same
theorem lock_get {H H' : Hp} {d b : Addr} {od : Obj} {o u : HO} (s : Same (upd H d (.frz od o)) H') (ne : b ≠ d) (h : H b = some u) : H' b = some u := s _ _ ((upd_ne ne).trans h)
theorem sqT_lock {K : PySem.W.Frag} {H H' : Hp} {d a : Addr} {od : Obj} {o : HO} {xs : List V} (s : Same (upd H d (.frz od o)) H') (hd : H d = some o) (n1 : ∀ ys, o ≠ .tup ys) (n2 : ∀ ob u, o ≠ .frz ob u)
    (h : SqT K H a xs) : SqT K H' a xs := Same.seqT s (sqT_mut hd n1 n2 h)
theorem any_false {α : Type} (f : α → Bool) (l : List α) (h : ∀ x ∈ l, f x = false) : (l.map f).any id = false := by
  rw [List.any_map]
  exact List.any_eq_false.mpr fun x hx => by simp [h x hx]
end GX

set_option Elab.async false
set_option linter.all false
set_option maxRecDepth 100000
set_option maxHeartbeats 4000000
namespace GX
open PySem L2 PySem.Spec
/-! ### a list made item by item, no item left out -/
section
variable {K : PySem.W.Frag} {σ : L2.St} {H : Hp} {Q : VK} {te : TE} {g : TG} {a la b d : Addr} {vs : List Nat}
theorem pm_go {J : It} {n : Nat} {G : Hp → Prop} {Y : Nat → Hp → V → Hp → Prop} (w : Walk J n G Y) (hn : n ≤ 1000000)
    (Z : Hp → Prop) (B : Hp → Hp → Prop) (R : Nat → V → Hp → Prop)
    (z0 : ∀ D, H D = none → Z (upd H D (.lst [])))
    (zB : ∀ H1 H5, Z H1 → B H1 H5 → Z H5)
    (zP : ∀ D H' o, H D = none → Z H' → Z (upd H' D o))
    (keep : ∀ D H1 H5 o, H D = none → H1 D = some o → Z H1 → B H1 H5 → H5 D = some o)
    (rB : ∀ D H1 H5 j x, H D = none → Z H1 → B H1 H5 → R j x (hid D H1) → R j x (hid D H5))
    (hG : ∀ H', Z H' → G H')
    (hs : ∀ D i x H1 H2 (Q' : VK), i < n → H D = none → (∃ o, H1 D = some o) → Z H1 → Y i H1 x H2 →
      (∀ y H5, B H1 H5 → R i y (hid D H5) → Q' y H5) → g x (wipe σ vs) H2 fun σ2 H3 => wipe σ2 vs = wipe σ vs ∧ te σ2 H3 Q')
    (hd : ∀ D ys H', H D = none → Z H' → H' D = some (.lst ys) → ys.length = n → (∀ i y, ys[i]? = some y → R i y (hid D H')) → Q (.ref D) H') :
    LcGo g tYes te vs σ Q J H := by
  have hu : ∀ D (H' : Hp) o, hid D (upd H' D o) = hid D H' := fun D H' o => by
    funext c
    unfold hid
    by_cases e : c = D
    · rw [if_pos e, if_pos e]
    · rw [if_neg e, if_neg e, upd_ne e]
  refine lc_go w (fun D i acc H' => Z H' ∧ acc.length = i ∧ ∀ j y, acc[j]? = some y → R j y (hid D H')) ?_ ?_ ?_ ?_
  · intro D hD
    exact ⟨z0 D hD, rfl, fun j y e => by cases e⟩
  · intro D i acc H' _ _ h
    exact hG _ h.1
  · intro D i acc x H1 H2 hi hD hl hA ⟨hz, hlen, hR⟩ y
    refine hs D i x H1 H2 (fun y H5 => ∃ acc, H5 D = some (.lst acc) ∧ acc.length < sizeLine ∧
          LcIn D ((fun D i acc H' => Z H' ∧ acc.length = i ∧ ∀ j y, acc[j]? = some y → R j y (hid D H')) D (i + 1)) (i + 1) (upd H5 D (.lst (acc ++ [y])))) hi hD ⟨_, hA⟩ hz y ?_
    intro v H5 hb hr
    refine lc_put (keep D H1 H5 _ hD hA hz hb) hl (by omega) ⟨zP D H5 _ hD (zB _ _ hz hb), ?_, ?_⟩
    · rw [List.length_append, hlen]
      rfl
    · intro j u e
      rw [hu]
      by_cases hj : j < acc.length
      · rw [List.getElem?_append_left hj] at e
        exact rB D H1 H5 j u hD hz hb (hR j u e)
      · rw [List.getElem?_append_right (by omega)] at e
        cases ez : j - acc.length with
        | zero =>
          rw [ez] at e
          cases e
          have : j = i := by omega
          subst this
          exact hr
        | succ m =>
          rw [ez] at e
          cases e
  · rintro D acc H' hD hl ⟨hz, hlen, hR⟩ hA
    exact hd D acc H' hD hz hA hlen hR
/-- the items leave what stands as it is -/
theorem pmS_go {J : It} {n : Nat} {G : Hp → Prop} {Y : Nat → Hp → V → Hp → Prop} (w : Walk J n G Y) (hn : n ≤ 1000000)
    (R : Nat → V → Hp → Prop) (hR : ∀ j x H1 H2, R j x H1 → Same H1 H2 → R j x H2)
    (hG : ∀ H', Same H H' → G H')
    (hs : ∀ D i x H1 H2 (Q' : VK), i < n → H D = none → (∃ o, H1 D = some o) → Same H H1 → Y i H1 x H2 →
      (∀ y H5, Same H1 H5 → R i y (hid D H5) → Q' y H5) → g x (wipe σ vs) H2 fun σ2 H3 => wipe σ2 vs = wipe σ vs ∧ te σ2 H3 Q')
    (hd : ∀ D ys H', H D = none → Same H H' → H' D = some (.lst ys) → ys.length = n → (∀ i y, ys[i]? = some y → R i y (hid D H')) → Q (.ref D) H') :
    LcGo g tYes te vs σ Q J H :=
  pm_go w hn (Same H) Same R (fun _ hD => Same.new hD) (fun _ _ p q => p.trans q) (fun D H' o hD s => same_set s hD) (fun D H1 H5 o _ h _ s => s _ _ h)
    (fun D H1 H5 j x _ _ s r => hR _ _ _ _ r (Same.hid s)) hG hs hd
/-- the items may draw -/
theorem pmD_go {J : It} {n : Nat} {G : Hp → Prop} {Y : Nat → Hp → V → Hp → Prop} (w : Walk J n G Y) (hn : n ≤ 1000000) (hsrc : Src H a la)
    (R : Nat → V → Hp → Prop) (hR : ∀ j x H1 H2, R j x H1 → Same H1 H2 → R j x H2)
    (hG : ∀ H', Kp a H H' → Src H' a la → G H')
    (hs : ∀ D i x H1 H2 (Q' : VK), i < n → H D = none → (∃ o, H1 D = some o) → Kp a H H1 → Src H1 a la → Y i H1 x H2 →
      (∀ y H5, Kp a H1 H5 → Src H5 a la → R i y (hid a (hid D H5)) → Q' y H5) → g x (wipe σ vs) H2 fun σ2 H3 => wipe σ2 vs = wipe σ vs ∧ te σ2 H3 Q')
    (hd : ∀ D ys H', H D = none → Kp a H H' → Src H' a la → H' D = some (.lst ys) → ys.length = n → (∀ i y, ys[i]? = some y → R i y (hid a (hid D H'))) → Q (.ref D) H') :
    LcGo g tYes te vs σ Q J H :=
  pm_go w hn (fun H' => Kp a H H' ∧ Src H' a la) (fun H1 H5 => Kp a H1 H5 ∧ Src H5 a la) (fun j x H => R j x (hid a H))
    (fun D hD => ⟨(Kp.refl a H).set hD, hsrc.new hD⟩) (fun _ _ p q => ⟨p.1.trans q.1, q.2⟩) (fun D H' o hD s => ⟨s.1.set hD, s.2.upd (hsrc.apart hD)⟩)
    (fun D H1 H5 o hD h _ s => s.1 _ _ h (hsrc.apart hD).1)
    (fun D H1 H5 j x hD _ s r => hR _ _ _ _ r (fun b o e => by
      by_cases h : b = a
      · subst h
        rw [hid_self] at e
        cases e
      · rw [hid_at h] at e ⊢
        by_cases h2 : b = D
        · subst h2
          rw [hid_self] at e
          cases e
        · rw [hid_at h2] at e ⊢
          exact s.1 b o e h)) (fun H' z => hG H' z.1 z.2)
    (fun D i x H1 H2 Q' hi hD hx hz hy k => hs D i x H1 H2 Q' hi hD hx hz.1 hz.2 hy fun y H5 h1 h2 h3 => k y H5 ⟨h1, h2⟩ h3)
    (fun D ys H' hD hz hA hl hr => hd D ys H' hD hz.1 hz.2 hA hl hr)
abbrev StS (D : Addr) (H H1 : Hp) (R : V → Hp → Prop) (Q' : VK) : Prop := ∀ y H5, Same H1 H5 → R y (hid D H5) → Q' y H5
abbrev DnS (H : Hp) (n : Nat) (R : Nat → V → Hp → Prop) (Q : VK) : Prop :=
  ∀ D ys H', H D = none → Same H H' → H' D = some (.lst ys) → ys.length = n → (∀ i y, ys[i]? = some y → R i y (hid D H')) → Q (.ref D) H'
abbrev StD (a la D : Addr) (H1 : Hp) (R : V → Hp → Prop) (Q' : VK) : Prop := ∀ y H5, Kp a H1 H5 → Src H5 a la → R y (hid a (hid D H5)) → Q' y H5
abbrev DnD (a la : Addr) (H : Hp) (n : Nat) (R : Nat → V → Hp → Prop) (Q : VK) : Prop :=
  ∀ D ys H', H D = none → Kp a H H' → Src H' a la → H' D = some (.lst ys) → ys.length = n → (∀ i y, ys[i]? = some y → R i y (hid a (hid D H'))) → Q (.ref D) H'
abbrev MonR (R : Nat → V → Hp → Prop) : Prop := ∀ j x H1 H2, R j x H1 → Same H1 H2 → R j x H2
theorem pmS_L (xs : List V) (R : Nat → V → Hp → Prop) (hR : MonR R) (hn : xs.length ≤ 1000000) (hx : SqL K H b xs)
    (hs : ∀ D i x H1 (Q' : VK), xs[i]? = some x → H D = none → (∃ o, H1 D = some o) → Same H H1 → StS D H H1 (R i) Q' →
      g x (wipe σ vs) H1 fun σ2 H3 => wipe σ2 vs = wipe σ vs ∧ te σ2 H3 Q')
    (hd : DnS H xs.length R Q) : LcGo g tYes te vs σ Q (Itl K b) H :=
  pmS_go (walk_list (xs := xs)) hn R hR (fun H' s => s.seq hx) (fun D i x H1 H2 Q' hi hD ho hz hy k => by obtain ⟨rfl, e⟩ := hy; exact hs D i x _ Q' e hD ho hz k) hd
theorem pmS_T (xs : List V) (R : Nat → V → Hp → Prop) (hR : MonR R) (hn : xs.length ≤ 1000000) (hx : SqT K H b xs)
    (hs : ∀ D i x H1 (Q' : VK), xs[i]? = some x → H D = none → (∃ o, H1 D = some o) → Same H H1 → StS D H H1 (R i) Q' →
      g x (wipe σ vs) H1 fun σ2 H3 => wipe σ2 vs = wipe σ vs ∧ te σ2 H3 Q')
    (hd : DnS H xs.length R Q) : LcGo g tYes te vs σ Q (Itt K b) H :=
  pmS_go (walk_tup (xs := xs)) hn R hR (fun H' s => Same.seqT s hx) (fun D i x H1 H2 Q' hi hD ho hz hy k => by obtain ⟨rfl, e⟩ := hy; exact hs D i x _ Q' e hD ho hz k) hd
theorem pmS_R (lo : Int) (n : Nat) (R : Nat → V → Hp → Prop) (hR : MonR R) (hn : n ≤ 1000000)
    (hs : ∀ D i H1 (Q' : VK), i < n → H D = none → (∃ o, H1 D = some o) → Same H H1 → StS D H H1 (R i) Q' →
      g (V.int (lo + (i : Nat))) (wipe σ vs) H1 fun σ2 H3 => wipe σ2 vs = wipe σ vs ∧ te σ2 H3 Q')
    (hd : DnS H n R Q) : LcGo g tYes te vs σ Q (Itr lo n) H :=
  pmS_go (walk_range (lo := lo) (n := n)) hn R hR (fun _ _ => trivial) (fun D i x H1 H2 Q' hi hD ho hz hy k => by obtain ⟨rfl, rfl⟩ := hy; exact hs D i _ Q' hi hD ho hz k) hd
theorem pmS_S (z : Str) (R : Nat → V → Hp → Prop) (hR : MonR R) (hn : z.cps.size ≤ 1000000)
    (hs : ∀ D i c H1 (Q' : VK), z.cps[i]? = some c → H D = none → (∃ o, H1 D = some o) → Same H H1 → StS D H H1 (R i) Q' →
      g (V.str ⟨#[c]⟩) (wipe σ vs) H1 fun σ2 H3 => wipe σ2 vs = wipe σ vs ∧ te σ2 H3 Q')
    (hd : DnS H z.cps.size R Q) : LcGo g tYes te vs σ Q (Its z) H :=
  pmS_go (walk_str (z := z)) hn R hR (fun _ _ => trivial) (fun D i x H1 H2 Q' hi hD ho hz hy k => by obtain ⟨rfl, c, e, rfl⟩ := hy; exact hs D i c _ Q' e hD ho hz k) hd
theorem pmS_V {kvs : List (Key × V)} {o : Obj} (R : Nat → V → Hp → Prop) (hR : MonR R) (hn : kvs.length ≤ 1000000) (hx : H d = some (.frz o (.dK kvs)))
    (hs : ∀ D i k x H1 (Q' : VK), kvs[i]? = some (k, x) → H D = none → (∃ o, H1 D = some o) → Same H H1 → StS D H H1 (R i) Q' →
      g x (wipe σ vs) H1 fun σ2 H3 => wipe σ2 vs = wipe σ vs ∧ te σ2 H3 Q')
    (hd : DnS H kvs.length R Q) : LcGo g tYes te vs σ Q (Itd d o kvs) H :=
  pmS_go walk_values hn R hR (fun H' s => s _ _ hx) (fun D i x H1 H2 Q' hi hD ho hz hy k => by obtain ⟨rfl, k', e⟩ := hy; exact hs D i k' x _ Q' e hD ho hz k) hd
theorem pmS_K {kvs : List (Key × V)} {o : Obj} (R : Nat → V → Hp → Prop) (hR : MonR R) (hn : kvs.length ≤ 1000000) (hx : H d = some (.frz o (.dK kvs)))
    (hs : ∀ D i k x H1 (Q' : VK), kvs[i]? = some (k, x) → H D = none → (∃ o, H1 D = some o) → Same H H1 → StS D H H1 (R i) Q' →
      g (kV k) (wipe σ vs) H1 fun σ2 H3 => wipe σ2 vs = wipe σ vs ∧ te σ2 H3 Q')
    (hd : DnS H kvs.length R Q) : LcGo g tYes te vs σ Q (Itk d o kvs) H :=
  pmS_go walk_keys hn R hR (fun H' s => s _ _ hx) (fun D i x H1 H2 Q' hi hD ho hz hy k => by obtain ⟨rfl, k', u, e, rfl⟩ := hy; exact hs D i k' u _ Q' e hD ho hz k) hd
theorem pmS_I {kvs : List (Key × V)} {o : Obj} (R : Nat → V → Hp → Prop) (hR : MonR R) (hn : kvs.length ≤ 1000000) (hx : H d = some (.frz o (.dK kvs)))
    (hs : ∀ D i k x H1 q (Q' : VK), kvs[i]? = some (k, x) → H D = none → (∃ o, H1 D = some o) → Same H H1 → H1 q = none → StS D H H1 (R i) Q' →
      g (.ref q) (wipe σ vs) (upd H1 q (.tup [kV k, x])) fun σ2 H3 => wipe σ2 vs = wipe σ vs ∧ te σ2 H3 Q')
    (hd : DnS H kvs.length R Q) : LcGo g tYes te vs σ Q (Iti d o kvs) H :=
  pmS_go walk_items hn R hR (fun H' s => s _ _ hx) (fun D i x H1 H2 Q' hi hD ho hz hy k => by
    obtain ⟨q, u, v, rfl, hq, rfl, h1, h2⟩ := hy
    obtain ⟨⟨k', w⟩, e⟩ : ∃ kw, kvs[i]? = some kw := ⟨kvs[i], by simp [hi]⟩
    have h1 : (kvs[i]?.map fun kv => kV kv.1) = some u := h1
    have h2 : kvs[i]?.map Prod.snd = some v := h2
    rw [e] at h1 h2
    cases h1
    cases h2
    exact hs D i k' _ _ q Q' e hD ho hz hq k) hd
theorem pmS_Z (xs ys : List V) (n : Nat) (hm : n = min xs.length ys.length) (R : Nat → V → Hp → Prop) (hR : MonR R) (hn : n ≤ 1000000) (hx : SqL K H a xs) (hy : SqL K H b ys)
    (hs : ∀ D i x y H1 q (Q' : VK), xs[i]? = some x → ys[i]? = some y → H D = none → (∃ o, H1 D = some o) → Same H H1 → H1 q = none → StS D H H1 (R i) Q' →
      g (.ref q) (wipe σ vs) (upd H1 q (.tup [x, y])) fun σ2 H3 => wipe σ2 vs = wipe σ vs ∧ te σ2 H3 Q')
    (hd : DnS H n R Q) : LcGo g tYes te vs σ Q (Itz K a b) H :=
  pmS_go (walk_zip (xs := xs) (ys := ys) hm) hn R hR (fun H' s => ⟨s.seq hx, s.seq hy⟩) (fun D i x H1 H2 Q' hi hD ho hz hy k => by
    obtain ⟨q, u, v, rfl, hq, rfl, h1, h2⟩ := hy; exact hs D i u v _ q Q' h1 h2 hD ho hz hq k) hd
theorem pmD_L (xs : List V) (R : Nat → V → Hp → Prop) (hR : MonR R) (hsrc : Src H a la) (hn : xs.length ≤ 1000000) (ne : b ≠ a) (hx : SqL K H b xs)
    (hs : ∀ D i x H1 (Q' : VK), xs[i]? = some x → H D = none → (∃ o, H1 D = some o) → Kp a H H1 → Src H1 a la → StD a la D H1 (R i) Q' →
      g x (wipe σ vs) H1 fun σ2 H3 => wipe σ2 vs = wipe σ vs ∧ te σ2 H3 Q')
    (hd : DnD a la H xs.length R Q) : LcGo g tYes te vs σ Q (Itl K b) H :=
  pmD_go (walk_list (xs := xs)) hn hsrc R hR (fun H' s _ => s.seq ne hx) (fun D i x H1 H2 Q' hi hD ho hz hz2 hy k => by obtain ⟨rfl, e⟩ := hy; exact hs D i x _ Q' e hD ho hz hz2 k) hd
theorem pmD_T (xs : List V) (R : Nat → V → Hp → Prop) (hR : MonR R) (hsrc : Src H a la) (hn : xs.length ≤ 1000000) (ne : b ≠ a) (hx : SqT K H b xs)
    (hs : ∀ D i x H1 (Q' : VK), xs[i]? = some x → H D = none → (∃ o, H1 D = some o) → Kp a H H1 → Src H1 a la → StD a la D H1 (R i) Q' →
      g x (wipe σ vs) H1 fun σ2 H3 => wipe σ2 vs = wipe σ vs ∧ te σ2 H3 Q')
    (hd : DnD a la H xs.length R Q) : LcGo g tYes te vs σ Q (Itt K b) H :=
  pmD_go (walk_tup (xs := xs)) hn hsrc R hR (fun H' s _ => s.seqT ne hx) (fun D i x H1 H2 Q' hi hD ho hz hz2 hy k => by obtain ⟨rfl, e⟩ := hy; exact hs D i x _ Q' e hD ho hz hz2 k) hd
theorem pmD_R (lo : Int) (n : Nat) (R : Nat → V → Hp → Prop) (hR : MonR R) (hsrc : Src H a la) (hn : n ≤ 1000000)
    (hs : ∀ D i H1 (Q' : VK), i < n → H D = none → (∃ o, H1 D = some o) → Kp a H H1 → Src H1 a la → StD a la D H1 (R i) Q' →
      g (V.int (lo + (i : Nat))) (wipe σ vs) H1 fun σ2 H3 => wipe σ2 vs = wipe σ vs ∧ te σ2 H3 Q')
    (hd : DnD a la H n R Q) : LcGo g tYes te vs σ Q (Itr lo n) H :=
  pmD_go (walk_range (lo := lo) (n := n)) hn hsrc R hR (fun _ _ _ => trivial) (fun D i x H1 H2 Q' hi hD ho hz hz2 hy k => by obtain ⟨rfl, rfl⟩ := hy; exact hs D i _ Q' hi hD ho hz hz2 k) hd
/-- the items told one by one are a map -/
theorem ys_map {α : Type} {ys : List V} (l : List α) (f : α → V) (hl : ys.length = l.length) (h : ∀ (i : Nat) (y : V), ys[i]? = some y → ∃ x : α, l[i]? = some x ∧ y = f x) : ys = l.map f := by
  refine List.ext_getElem? fun i => ?_
  rw [List.getElem?_map]
  cases e : ys[i]? with
  | none =>
    have h1 := List.getElem?_eq_none_iff.mp e
    rw [List.getElem?_eq_none (by omega)]
    rfl
  | some y =>
    obtain ⟨x, ex, rfl⟩ := h i y e
    rw [ex]
    rfl
end
theorem r_listD {H : Hp} {Q : VK} {a : Addr} {kvs : List (Key × V)} (h : H a = some (.dK kvs)) (q : ∀ p, H p = none → Q (.ref p) (upd H p (.lst (kvs.map fun kv => kV kv.1)))) :
    rListD [.ref a] H Q := ⟨a, kvs, rfl, h, q⟩
theorem dp_all_of {K : PySem.W.Frag} {H : Hp} {ds : List PyData} : ∀ {vs : List V}, vs.length = ds.length →
    (∀ (i : Nat) (v : V), vs[i]? = some v → ∃ d : PyData, ds[i]? = some d ∧ Dp K H v d) → DpAll K H vs ds := by
  induction ds with
  | nil =>
    intro vs hl _
    cases vs with
    | nil => exact .nil
    | cons v vs => cases hl
  | cons d ds ih =>
    intro vs hl h
    cases vs with
    | nil => cases hl
    | cons v vs =>
      obtain ⟨d', e, hd⟩ := h 0 v rfl
      cases e
      exact .cons hd (ih (Nat.succ.inj hl) fun i u hu => h (i + 1) u hu)
theorem hid_upd_self {H : Hp} {d : Addr} {o : HO} : hid d (upd H d o) = hid d H := by
  funext c
  unfold hid
  by_cases e : c = d
  · rw [if_pos e, if_pos e]
  · rw [if_neg e, if_neg e, upd_ne e]
theorem sqT_hid {K : PySem.W.Frag} {H : Hp} {d a : Addr} {o : HO} {xs : List V} (h : H d = some o) (n1 : ∀ ys, o ≠ .tup ys) (n2 : ∀ ob u, o ≠ .frz ob u)
    (hs : SqT K H a xs) : SqT K (hid d H) a xs := by
  rcases hs with (hs | ⟨ob, hs⟩) | hs
  · exact .inl (.inl ((hid_at (ne_of hs h fun e => n1 _ e.symm)).trans hs))
  · exact .inl (.inr ⟨ob, (hid_at (ne_of hs h fun e => n2 _ _ e.symm)).trans hs⟩)
  · exact .inr hs
theorem same_hid0 {H H' : Hp} {D : Addr} (hD : H D = none) (s : Same H H') : Same H (hid D H') := fun b o e => by
  rw [hid_at (ne_of_none e hD)]
  exact s b o e
theorem unhid {H : Hp} {d : Addr} {o : HO} : Same (hid d H) (upd H d o) := fun b u e => by
  by_cases h : b = d
  · subst h
    rw [hid_self] at e
    cases e
  · rw [hid_at h] at e
    rw [upd_ne h]
    exact e
section
variable {K : PySem.W.Frag} {H : Hp} {a C dx : Addr} {fs : List (Str × V)} {D : Ends} {σ : L2.St}
theorem r_sfldA {S : Addr → Addr → Addr → List (Str × V) → Prop} {f : Str} (ho : H a = some (.ins C dx fs)) (hc : Cls K C) (hn : NoAttr K C f) (hl : fs.length < 1000)
    (q : S a C dx fs) : ∃ b C dx fs, V.ref a = .ref b ∧ H b = some (.ins C dx fs) ∧ Cls K C ∧ NoAttr K C f ∧ fs.length < 1000 ∧ S b C dx fs :=
  ⟨a, C, dx, fs, rfl, ho, hc, hn, hl, q⟩
theorem r_lock {t : TS} {d : Addr} {o : HO} (h : H d = some o) (mu : Mut (some o)) (q : ∀ od, t ⟨fun σ' H' => H' d = some (.frz od o) ∧ D.nx σ' (upd H' d o), fun v H' => H' d = some (.frz od o) ∧ D.rt v (upd H' d o),
    fun σ' H' => H' d = some (.frz od o) ∧ D.bk σ' (upd H' d o), fun σ' H' => H' d = some (.frz od o) ∧ D.ct σ' (upd H' d o)⟩ σ (upd H d (.frz od o))) : tLock t D σ H := ⟨d, o, h, mu, q⟩
end
end GX

set_option Elab.async false
set_option linter.all false
set_option maxRecDepth 100000
set_option maxHeartbeats 4000000
namespace GX
open PySem L2 PySem.Spec
theorem len_le_of_sub {α : Type} [DecidableEq α] : ∀ {l m : List α}, l.Nodup → (∀ x ∈ l, x ∈ m) → l.length ≤ m.length := by
  intro l
  induction l with
  | nil => intro m _ _; exact Nat.zero_le _
  | cons a l ih =>
    intro m nd h
    rw [List.nodup_cons] at nd
    have hm := h a (List.mem_cons_self ..)
    have h2 : ∀ x ∈ l, x ∈ m.erase a := fun x hx => by
      have ne : x ≠ a := fun e => nd.1 (e ▸ hx)
      exact (List.mem_erase_of_ne ne).mpr (h x (List.mem_cons_of_mem _ hx))
    have := ih nd.2 h2
    rw [List.length_erase_of_mem hm] at this
    have hp := List.length_pos_of_mem hm
    rw [List.length_cons]
    omega
theorem Fint.subset {ts us : List Trip} (h : ∀ t ∈ ts, t ∈ us) : ∀ {k : Str}, Fint ts k → Fint us k := by
  intro k f
  induction f with
  | mk ht _ ih => exact .mk (h _ ht) ih
theorem Good.perm {nm : Str → Bool} {ts us : List Trip} (h : Good nm ts) (p : us.Perm ts) : Good nm us := by
  have sub : ∀ t ∈ us, t ∈ ts := fun t ht => p.mem_iff.mp ht
  have sub' : ∀ t ∈ ts, t ∈ us := fun t ht => p.mem_iff.mpr ht
  have kk : ∀ k, k ∈ kindsOf us ↔ k ∈ kindsOf ts := fun k => by
    rw [mem_kindsOf, mem_kindsOf]
    constructor
    · rintro ⟨t, h1, h2⟩
      exact ⟨t, sub t h1, h2⟩
    · rintro ⟨t, h1, h2⟩
      exact ⟨t, sub' t h1, h2⟩
  refine ⟨fun t ht => h.names t (sub t ht), (p.map _).nodup_iff.mpr h.nd, ?_, ?_, fun t ht => h.parts t (sub t ht), ?_, ?_, p.length_eq ▸ h.few, fun t ht => h.short t (sub t ht)⟩
  · exact Nat.le_trans (len_le_of_sub (nodup_kindsOf us) fun k hk => (kk k).mp hk) h.kinds
  · intro k hk
    have e : (consOf us k).length = (consOf ts k).length := by
      unfold consOf
      rw [List.length_map, List.length_map]
      exact (p.filter _).length_eq
    rw [e]
    exact h.cons k ((kk k).mp hk)
  · intro t ht q hq
    exact (kk q).mpr (h.known t (sub t ht) q hq)
  · intro k hk
    exact (h.fin k ((kk k).mp hk)).subset sub'
/-- triples drawn: a first one for each kind, whose parts are of the kinds before it, and more -/
structure DrawnT (names kinds : List Str) (ts1 more : List Trip) : Prop where
  cons : (ts1 ++ more).map (·.1) = (names.drop kinds.length).take (ts1 ++ more).length
  firsts : ts1.map (·.2.1) = kinds
  lower : ∀ (j : Nat) (t : Trip), ts1[j]? = some t → (∀ p ∈ t.2.2, p ∈ kinds.take j) ∧ t.2.2.length ≤ 3
  more : ∀ t ∈ more, t.2.1 ∈ kinds ∧ (∀ p ∈ t.2.2, p ∈ kinds) ∧ t.2.2.length ≤ 3
theorem count_firsts {kinds : List Str} (nd : kinds.Nodup) : ∀ {ts1 : List Trip}, ts1.map (·.2.1) = kinds → ∀ k, (consOf ts1 k).length ≤ 1 := by
  induction kinds with
  | nil =>
    intro ts1 e k
    rw [List.map_eq_nil_iff] at e
    rw [e]
    exact Nat.zero_le _
  | cons a l ih =>
    intro ts1 e k
    rw [List.nodup_cons] at nd
    cases ts1 with
    | nil => cases e
    | cons t ts1 =>
      rw [List.map_cons] at e
      obtain ⟨e1, e2⟩ := List.cons.inj e
      have h := ih nd.2 e2 k
      unfold consOf at h ⊢
      rw [List.filter_cons]
      by_cases ek : t.2.1 = k
      · rw [if_pos (decide_eq_true ek)]
        have z : ts1.filter (fun t => decide (t.2.1 = k)) = [] := by
          rw [List.filter_eq_nil_iff]
          intro u hu eu
          have := of_decide_eq_true eu
          refine nd.1 ?_
          rw [← e1, ek, ← this, ← e2]
          exact List.mem_map_of_mem hu
        rw [z]
        exact Nat.le_refl _
      · rw [if_neg (by simp [ek])]
        exact h
theorem DrawnT.good {nm : Str → Bool} {names kinds : List Str} {ts1 more : List Trip} (h : DrawnT names kinds ts1 more) (nd : names.Nodup)
    (hn : ∀ z ∈ names, nm z = true ∧ z.length ≤ 8) (hk : ∀ z ∈ kinds, z ∈ names) (ndk : kinds.Nodup) (k4 : kinds.length ≤ 4) (m5 : more.length ≤ 5) :
    Good nm (ts1 ++ more) := by
  have l1 : ts1.length = kinds.length := by rw [← h.firsts, List.length_map]
  have kin : ∀ t ∈ ts1 ++ more, t.2.1 ∈ kinds := fun t ht => by
    rcases List.mem_append.mp ht with q | q
    · rw [← h.firsts]
      exact List.mem_map_of_mem q
    · exact (h.more t q).1
  have cin : ∀ t ∈ ts1 ++ more, t.1 ∈ names := fun t ht => by
    have q : t.1 ∈ (ts1 ++ more).map (·.1) := List.mem_map_of_mem ht
    rw [h.cons] at q
    exact List.mem_of_mem_drop (List.mem_of_mem_take q)
  have known : ∀ k ∈ kinds, k ∈ kindsOf (ts1 ++ more) := fun k hk => by
    rw [← h.firsts] at hk
    obtain ⟨t, h1, h2⟩ := List.mem_map.mp hk
    exact (mem_kindsOf _ _).mpr ⟨t, List.mem_append_left _ h1, h2⟩
  have kin2 : ∀ k ∈ kindsOf (ts1 ++ more), k ∈ kinds := fun k hk => by
    obtain ⟨t, h1, rfl⟩ := (mem_kindsOf _ _).mp hk
    exact kin t h1
  refine ⟨fun t ht => ⟨(hn _ (cin t ht)).1, (hn _ (hk _ (kin t ht))).1⟩, ?_, ?_, ?_, ?_, ?_, ?_, ?_, ?_⟩
  · rw [h.cons]
    exact (nd.sublist (List.drop_sublist _ _)).sublist (List.take_sublist _ _)
  · exact Nat.le_trans (len_le_of_sub (nodup_kindsOf _) kin2) k4
  · intro k _
    have e : (consOf (ts1 ++ more) k).length = (consOf ts1 k).length + (consOf more k).length := by
      unfold consOf
      rw [List.filter_append, List.map_append, List.length_append]
    have h1 := count_firsts ndk h.firsts k
    have h2 : (consOf more k).length ≤ more.length := by
      unfold consOf
      rw [List.length_map]
      exact List.length_filter_le _ _
    omega
  · intro t ht
    rcases List.mem_append.mp ht with q | q
    · obtain ⟨j, hj⟩ := List.getElem?_of_mem q
      exact (h.lower j t hj).2
    · exact (h.more t q).2.2
  · intro t ht p hp
    refine known p ?_
    rcases List.mem_append.mp ht with q | q
    · obtain ⟨j, hj⟩ := List.getElem?_of_mem q
      exact List.mem_of_mem_take ((h.lower j t hj).1 p hp)
    · exact (h.more t q).2.1 p hp
  · have all : ∀ n, ∀ k ∈ kinds.take n, Fint (ts1 ++ more) k := by
      intro n
      induction n with
      | zero => intro k hk; cases hk
      | succ n ih =>
        intro k hk
        rw [List.take_succ] at hk
        rcases List.mem_append.mp hk with q | q
        · exact ih k q
        · have e : kinds[n]? = some k := by simpa using q
          rw [← h.firsts, List.getElem?_map] at e
          cases et : ts1[n]? with
          | none => rw [et] at e; cases e
          | some t =>
            rw [et] at e
            have e : t.2.1 = k := Option.some.inj e
            rw [← e]
            exact .mk (List.mem_append_left _ (List.mem_of_getElem? et)) fun p hp => ih p ((h.lower n t et).1 p hp)
    intro k hk
    refine all kinds.length k ?_
    rw [List.take_of_length_le (Nat.le_refl _)]
    exact kin2 k hk
  · rw [List.length_append]
    omega
  · intro t ht
    have h1 := (hn _ (cin t ht)).2
    have h2 := (hn _ (hk _ (kin t ht))).2
    omega
theorem kp_le2 {a f : Addr} {H H' : Hp} (k : Kp a H H') : Same (hid a (hid f H)) (hid a (hid f H')) := fun b o e => by
  by_cases h : b = a
  · subst h
    rw [hid_self] at e
    cases e
  · rw [hid_at h] at e ⊢
    by_cases h2 : b = f
    · subst h2
      rw [hid_self] at e
      cases e
    · rw [hid_at h2] at e ⊢
      exact k b o e h
theorem dp_all_perm {K : PySem.W.Frag} {H : Hp} {ys xs : List V} (h : ys.Perm xs) : ∀ {ds : List PyData}, DpAll K H xs ds → ∃ es, es.Perm ds ∧ DpAll K H ys es := by
  induction h with
  | nil =>
    intro ds h
    exact ⟨ds, List.Perm.refl _, h⟩
  | cons x _ ih =>
    intro ds h
    cases h with
    | cons h1 h2 =>
      obtain ⟨es, p, q⟩ := ih h2
      exact ⟨_ :: es, p.cons _, .cons h1 q⟩
  | swap x y _ =>
    intro ds h
    cases h with
    | cons h1 h2 =>
      cases h2 with
      | cons h2 h3 => exact ⟨_ :: _ :: _, List.Perm.swap _ _ _, .cons h2 (.cons h1 h3)⟩
  | trans _ _ ih1 ih2 =>
    intro ds h
    obtain ⟨es, p, q⟩ := ih2 h
    obtain ⟨es', p', q'⟩ := ih1 q
    exact ⟨es', p'.trans p, q'⟩
theorem r_min2 {R : Int → Int → Prop} {i j : Int} (q : R i j) : ∃ i' j', [V.int i, V.int j] = [.int i', .int j'] ∧ R i' j' := ⟨i, j, rfl, q⟩
theorem atI_eq {α : Type} {xs : List α} {n : Nat} {i : Int} {v : α} (e : xs[n]? = some v) (h : i = (n : Int)) : atI xs i = some v := by
  rw [h]
  exact atI_nat e
theorem get_map {α β : Type} {l : List α} {f : α → β} {i : Nat} {x : β} (h : (l.map f)[i]? = some x) : ∃ a, l[i]? = some a ∧ f a = x := by
  rw [List.getElem?_map] at h
  cases e : l[i]? with
  | none => rw [e] at h; cases h
  | some a => rw [e] at h; exact ⟨a, rfl, Option.some.inj h⟩
/-- the items told one by one are of a kind -/
theorem ys_strs {ys : List V} {p : Nat → Str → Prop} (h : ∀ (i : Nat) (y : V), ys[i]? = some y → ∃ z : Str, p i z ∧ y = .str z) :
    ∃ zs : List Str, ys = zs.map V.str ∧ ∀ (i : Nat) (z : Str), zs[i]? = some z → p i z := by
  induction ys generalizing p with
  | nil => exact ⟨[], rfl, fun i z e => by cases e⟩
  | cons y ys ih =>
    obtain ⟨z, hz, rfl⟩ := h 0 y rfl
    obtain ⟨zs, rfl, q⟩ := ih (p := fun i => p (i + 1)) fun i y e => h (i + 1) y e
    refine ⟨z :: zs, rfl, fun i u e => ?_⟩
    cases i with
    | zero => cases e; exact hz
    | succ i => exact q i u e
/-- a comprehension in a comprehension: its scope's parent -/
def relabelS (scope psc : Scope) : Scope :=
  { scope with names := scope.names.map fun (n, k) => if (k == .free && psc.kind == .function && psc.names.lookup n == some .cell) then (n, .cell) else (n, k) }
theorem blk_nest {N : List Str} {scope sc psc : Scope} {own : List (Str × Nat)} {env : Env} (hp : env.scope = psc) (h : blkC N (relabelS sc psc) scope own = true) :
    BlkOk N (relabel sc env) scope own := by
  subst hp
  exact blkOk_by h
end GX

set_option Elab.async false
set_option linter.all false
set_option maxRecDepth 100000
set_option maxHeartbeats 4000000
namespace GX
open PySem L2 PySem.Spec
/-- the heap without some places -/
def hidL (as : List Addr) (H : Hp) : Hp := as.foldr hid H
def KpL (as : List Addr) (H H' : Hp) : Prop := ∀ b o, H b = some o → b ∉ as → H' b = some o
theorem hidL_at {as : List Addr} {H : Hp} {b : Addr} (h : b ∉ as) : hidL as H b = H b := by
  induction as with
  | nil => rfl
  | cons a as ih =>
    rw [List.mem_cons, not_or] at h
    show hid a (hidL as H) b = H b
    rw [hid_at h.1, ih h.2]
theorem hidL_in {as : List Addr} {H : Hp} {b : Addr} (h : b ∈ as) : hidL as H b = none := by
  induction as with
  | nil => cases h
  | cons a as ih =>
    show hid a (hidL as H) b = none
    by_cases e : b = a
    · subst e
      exact hid_self
    · rw [hid_at e]
      exact ih ((List.mem_cons.mp h).resolve_left e)
theorem KpL.refl (as : List Addr) (H : Hp) : KpL as H H := fun _ _ e _ => e
theorem KpL.trans {as : List Addr} {H H1 H2 : Hp} (p : KpL as H H1) (q : KpL as H1 H2) : KpL as H H2 := fun b o e h => q b o (p b o e h) h
theorem KpL.le {as : List Addr} {H H' : Hp} (k : KpL as H H') : Same (hidL as H) (hidL as H') := fun b o e => by
  by_cases h : b ∈ as
  · rw [hidL_in h] at e
    cases e
  · rw [hidL_at h] at e ⊢
    exact k b o e h
theorem hidL_le {as : List Addr} {H : Hp} : Same (hidL as H) H := fun b o e => by
  by_cases h : b ∈ as
  · rw [hidL_in h] at e
    cases e
  · rw [hidL_at h] at e
    exact e
theorem Same.kpl {as : List Addr} {H H' : Hp} (s : Same H H') : KpL as H H' := fun b o e _ => s b o e
theorem Kp.kpl {a : Addr} {as : List Addr} {H H' : Hp} (k : Kp a H H') (h : a ∈ as) : KpL as H H' := fun b o e n => k b o e fun q => n (q ▸ h)
theorem KpL.new {as : List Addr} {p : Addr} {H H' : Hp} {o : HO} (q : KpL as H H') (h : H' p = none) : KpL as H (upd H' p o) := fun b u e n => by
  have z := q b u e n
  rw [upd_ne (ne_of_none z h)]
  exact z
theorem KpL.put {as : List Addr} {p : Addr} {H H' : Hp} {o : HO} (q : KpL as H H') (h : p ∈ as) : KpL as H (upd H' p o) := fun b u e n => by
  have ne : b ≠ p := fun z => n (by rw [z]; exact h)
  rw [upd_ne ne]
  exact q b u e n
/-- fewer places hidden -/
theorem hidL_sub {as bs : List Addr} {H : Hp} (h : ∀ b ∈ bs, b ∈ as) : Same (hidL as H) (hidL bs H) := fun b o e => by
  by_cases h1 : b ∈ as
  · rw [hidL_in h1] at e
    cases e
  · rw [hidL_at h1] at e
    rw [hidL_at fun q => h1 (h b q)]
    exact e
/-- all hidden that was not there: nothing lost -/
theorem same_hidL {as bs : List Addr} {H H' : Hp} (k : KpL as H H') (h : ∀ b ∈ bs, b ∈ as ∨ H b = none) : Same (hidL as H) (hidL bs H') := fun b o e => by
  by_cases h1 : b ∈ as
  · rw [hidL_in h1] at e
    cases e
  · rw [hidL_at h1] at e
    rw [hidL_at fun q => (h b q).elim h1 fun z => by rw [z] at e; cases e]
    exact k b o e h1
/-! ### steps, as plain data -/
abbrev GStep := Str × List Nat
abbrev sdata (s : GStep) : PyData := .tuple [.str s.1, .tuple (s.2.map fun i : Nat => .int (i : Int))]
/-- steps of a signature and the kinds of their trees -/
inductive StepsOk (ts : List Trip) : List GStep → List Str → Prop
  | nil : StepsOk ts [] []
  | snoc {ss : List GStep} {ks : List Str} {t : Trip} {is : List Nat} : StepsOk ts ss ks → t ∈ ts → is.length = t.2.2.length →
      (∀ (j : Nat) (p : Str), t.2.2[j]? = some p → ∃ i : Nat, is[j]? = some i ∧ ks[i]? = some p) → StepsOk ts (ss ++ [(t.1, is)]) (ks ++ [t.2.1])
theorem StepsOk.len {ts : List Trip} {ss : List GStep} {ks : List Str} (h : StepsOk ts ss ks) : ss.length = ks.length := by
  induction h with
  | nil => rfl
  | snoc _ _ _ _ ih => rw [List.length_append, List.length_append, ih]; rfl
/-- where a kind has a finite tree, some constructor has no parts -/
theorem Fint.leaf {ts : List Trip} {k : Str} (h : Fint ts k) : ∃ t ∈ ts, t.2.2 = [] := by
  induction h with
  | @mk t ht hp ih =>
    cases e : t.2.2 with
    | nil => exact ⟨t, ht, e⟩
    | cons p r => exact ih p (by rw [e]; exact List.mem_cons_self ..)
theorem Good.leaf {nm : Str → Bool} {ts : List Trip} (h : Good nm ts) (ne : ts ≠ []) : ∃ t ∈ ts, t.2.2 = [] := by
  cases ts with
  | nil => exact absurd rfl ne
  | cons t r => exact (h.fin t.2.1 ((mem_kindsOf _ _).mpr ⟨t, List.mem_cons_self .., rfl⟩)).leaf
theorem dp_step {K : PySem.W.Frag} {H : Hp} {p q : Addr} {c : Str} {is : List Nat} (h1 : SqT K H p [.str c, .ref q]) (h2 : SqT K H q (is.map fun i : Nat => V.int (i : Int))) :
    Dp K H (.ref p) (sdata (c, is)) := by
  refine .tup h1 (.cons (.str _) (.cons (.tup h2 ?_) .nil))
  have := dp_ints (K := K) (H := H) (is.map fun i : Nat => (i : Int))
  rw [List.map_map, List.map_map] at this
  exact this
/-- a step read -/
theorem dp_step_inv {K : PySem.W.Frag} {H : Hp} {v : V} {s : GStep} (h : Dp K H v (sdata s)) : ∃ p q, v = .ref p ∧ SqT K H p [.str s.1, .ref q] ∧ SqT K H q (s.2.map fun i : Nat => V.int (i : Int)) := by
  obtain ⟨p, xs, rfl, hs, ha⟩ := dp_tup h
  cases ha with
  | cons a1 a2 =>
    cases a1
    cases a2 with
    | cons b1 b2 =>
      cases b2
      obtain ⟨q, zs, rfl, hz, hb⟩ := dp_tup b1
      have e : s.2.map (fun i : Nat => PyData.int (i : Int)) = (s.2.map fun i : Nat => (i : Int)).map PyData.int := by rw [List.map_map]; rfl
      rw [e] at hb
      rw [dp_ints_inv hb, List.map_map] at hz
      exact ⟨p, q, rfl, hs, hz⟩
theorem ys_of {α : Type} (f : α → V) {ys : List V} {p : Nat → α → Prop} (h : ∀ (i : Nat) (y : V), ys[i]? = some y → ∃ z : α, p i z ∧ y = f z) :
    ∃ zs : List α, ys = zs.map f ∧ ∀ (i : Nat) (z : α), zs[i]? = some z → p i z := by
  induction ys generalizing p with
  | nil => exact ⟨[], rfl, fun i z e => by cases e⟩
  | cons y ys ih =>
    obtain ⟨z, hz, rfl⟩ := h 0 y rfl
    obtain ⟨zs, rfl, q⟩ := ih (p := fun i => p (i + 1)) fun i y e => h (i + 1) y e
    refine ⟨z :: zs, rfl, fun i u e => ?_⟩
    cases i with
    | zero => cases e; exact hz
    | succ i => exact q i u e
theorem pmD_Th {K : PySem.W.Frag} {σ : L2.St} {H : Hp} {Q : VK} {te : TE} {g : TG} {a la b : Addr} {vs : List Nat} (xs : List V) (R : Nat → V → Hp → Prop) (hR : MonR R) (hsrc : Src H a la)
    (hn : xs.length ≤ 1000000) (hx : SqT K (hid a H) b xs)
    (hs : ∀ D i x H1 (Q' : VK), xs[i]? = some x → H D = none → (∃ o, H1 D = some o) → Kp a H H1 → Src H1 a la → StD a la D H1 (R i) Q' →
      g x (wipe σ vs) H1 fun σ2 H3 => wipe σ2 vs = wipe σ vs ∧ te σ2 H3 Q')
    (hd : DnD a la H xs.length R Q) : LcGo g tYes te vs σ Q (Itt K b) H :=
  pmD_go (walk_tup (xs := xs)) hn hsrc R hR (fun H' s _ => Same.seqT (s.le.trans hid_le) hx) (fun D i x H1 H2 Q' hi hD ho hz hz2 hy k => by obtain ⟨rfl, e⟩ := hy; exact hs D i x _ Q' e hD ho hz hz2 k) hd
theorem StepsOk.get {ts : List Trip} {ss : List GStep} {ks : List Str} (h : StepsOk ts ss ks) : ∀ {n : Nat} {s : GStep}, ss[n]? = some s →
    ∃ t ∈ ts, s.1 = t.1 ∧ s.2.length = t.2.2.length ∧ ks[n]? = some t.2.1 ∧ ∀ (j : Nat) (p : Str), t.2.2[j]? = some p → ∃ i : Nat, s.2[j]? = some i ∧ i < n ∧ ks[i]? = some p := by
  induction h with
  | nil => intro n s e; cases e
  | @snoc ss ks t is h tm hl hp ih =>
    intro n s e
    have el := h.len
    by_cases hn : n < ss.length
    · rw [List.getElem?_append_left hn] at e
      obtain ⟨u, um, h1, h2, h3, h4⟩ := ih e
      refine ⟨u, um, h1, h2, by rw [List.getElem?_append_left (by omega)]; exact h3, fun j p hj => ?_⟩
      obtain ⟨i, g1, g2, g3⟩ := h4 j p hj
      exact ⟨i, g1, g2, by rw [List.getElem?_append_left (by omega)]; exact g3⟩
    · rw [List.getElem?_append_right (by omega)] at e
      have e0 : n = ss.length := by
        cases ez : n - ss.length with
        | zero => omega
        | succ m => rw [ez] at e; cases e
      subst e0
      rw [Nat.sub_self] at e
      cases e
      refine ⟨t, tm, rfl, hl, by rw [el, List.getElem?_append_right (Nat.le_refl _), Nat.sub_self]; rfl, fun j p hj => ?_⟩
      obtain ⟨i, g1, g2⟩ := hp j p hj
      have hi := (List.getElem?_eq_some_iff.mp g2).1
      exact ⟨i, g1, by omega, by rw [List.getElem?_append_left hi]; exact g2⟩
theorem StepsOk.lt {ts : List Trip} {ss : List GStep} {ks : List Str} (h : StepsOk ts ss ks) {n : Nat} {s : GStep} (e : ss[n]? = some s) : ∀ i ∈ s.2, i < n := by
  obtain ⟨t, _, _, h2, _, h4⟩ := h.get e
  intro i hi
  obtain ⟨j, hj⟩ := List.getElem?_of_mem hi
  have hj2 := (List.getElem?_eq_some_iff.mp hj).1
  obtain ⟨i', g1, g2, _⟩ := h4 j t.2.2[j] (List.getElem?_eq_getElem (by omega))
  rw [hj] at g1
  cases g1
  exact g2
/-- the tree of a step, with fuel -/
def treeF (ss : List GStep) : Nat → Nat → PyData
  | 0, _ => .none
  | d + 1, i => match ss[i]? with
    | none => .none
    | some s => .tuple (.str s.1 :: s.2.map (treeF ss d))
theorem r_catT {K : PySem.W.Frag} {H : Hp} {Q : VK} {a b : Addr} {xs ys : List V} (h1 : SqT K H a xs) (h2 : SqT K H b ys) (hne : xs ≠ []) (hl : xs.length + ys.length ≤ 1000000)
    (q : ∀ p H', Same H H' → SqT K H' p (xs ++ ys) → (H p = none ∨ p = a) → Q (.ref p) H') : rCatT K (.ref a) (.ref b) H Q :=
  ⟨a, b, xs, ys, rfl, rfl, h1, h2, hne, Nat.le_trans hl (by decide), fun e => q a H (Same.refl H) (by rw [e, List.append_nil]; exact h1) (.inr rfl), fun _ p np => q p _ (Same.new np) (.of upd_same) (.inl np)⟩
theorem sqT_hidL {K : PySem.W.Frag} {H : Hp} {as : List Addr} {p : Addr} {xs : List V} (h : SqT K H p xs) (n : p ∉ as) : SqT K (hidL as H) p xs := by
  rcases h with (h | ⟨o, h⟩) | h
  · exact .inl (.inl ((hidL_at n).trans h))
  · exact .inl (.inr ⟨o, (hidL_at n).trans h⟩)
  · exact .inr h
theorem hidL_comm {D : Addr} {as : List Addr} {H : Hp} : Same (hidL (D :: as) H) (hidL as (hid D H)) := fun b o e => by
  by_cases h : b ∈ D :: as
  · rw [hidL_in h] at e
    cases e
  · rw [hidL_at h] at e
    rw [List.mem_cons, not_or] at h
    rw [hidL_at h.2, hid_at h.1]
    exact e
/-- all of these stand -/
def Occ (H : Hp) (as : List Addr) : Prop := ∀ b ∈ as, ∃ o, H b = some o
theorem Occ.mono {H H' : Hp} {as : List Addr} (h : Occ H as) (s : Same H H') : Occ H' as := fun b hb => by
  obtain ⟨o, e⟩ := h b hb
  exact ⟨o, s _ _ e⟩
theorem Occ.nin {H : Hp} {as : List Addr} {p : Addr} (h : Occ H as) (n : H p = none) : p ∉ as := fun hp => by
  obtain ⟨o, e⟩ := h p hp
  rw [n] at e
  cases e
/-- the number of nodes of the tree of each step -/
def addSize (acc : List Nat) (s : GStep) : List Nat := acc ++ [1 + (s.2.map fun i => acc.getD i 0).sum]
def sizesOf (ss : List GStep) : List Nat := ss.foldl addSize []
theorem sizesOf_app (ss : List GStep) (s : GStep) : sizesOf (ss ++ [s]) = addSize (sizesOf ss) s := by
  unfold sizesOf
  rw [List.foldl_append]
  rfl
theorem sizesOf_len (ss : List GStep) : (sizesOf ss).length = ss.length := by
  revert ss
  refine snoc_ind rfl ?_
  intro ss s ih
  rw [sizesOf_app]
  unfold addSize
  rw [List.length_append, List.length_append, ih]
  rfl
abbrev vints (l : List Nat) : List V := l.map fun n : Nat => V.int (n : Int)
theorem vints_sum (l : List Nat) : (l.map fun n : Nat => (n : Int)).sum = ((l.sum : Nat) : Int) := by
  induction l with
  | nil => rfl
  | cons a l ih =>
    rw [List.map_cons, List.sum_cons, List.sum_cons, ih]
    omega
theorem vints_eq (l : List Nat) : vints l = (l.map fun n : Nat => (n : Int)).map V.int := by
  rw [List.map_map]
  rfl
theorem r_sum {K : PySem.W.Frag} {H : Hp} {Q : VK} {a : Addr} {l : List Nat} (h : SqL K H a (vints l)) (q : Q (.int ((l.sum : Nat) : Int)) H) : rSum K [.ref a] H Q := by
  refine ⟨a, l.map fun n : Nat => (n : Int), rfl, ?_, ?_⟩
  · rw [← vints_eq]
    exact h
  · rw [vints_sum]
    exact q
end GX

set_option Elab.async false
set_option linter.all false
set_option maxRecDepth 100000
set_option maxHeartbeats 4000000
namespace GX
open PySem L2 PySem.Spec
theorem lay_strs {zs : List Str} (h : ∀ z ∈ zs, PyData.strOk z = true) : PyData.canLayAll0 (zs.map PyData.str) = true := by
  induction zs with
  | nil => rfl
  | cons z zs ih => simp [PyData.canLayAll0, PyData.canLay0, ih fun y hy => h y (List.mem_cons_of_mem _ hy), h z (List.mem_cons_self ..)]
theorem depth_strs (zs : List Str) : PyData.depthAll (zs.map PyData.str) ≤ 1 := by
  induction zs with
  | nil => simp [PyData.depthAll]
  | cons z zs ih =>
    simp only [List.map_cons, PyData.depthAll, PyData.depth]
    omega
theorem shaped_strs {zs : List Str} (h : ∀ z ∈ zs, PyData.strOk z = true) : SeqAt.shaped (.list (zs.map PyData.str)) = true := by
  have h1 := lay_strs h
  have h2 := depth_strs zs
  unfold SeqAt.shaped
  simp only [PyData.canLay0, PyData.depth, h1, Bool.true_and]
  exact decide_eq_true (by omega)
theorem eqv_strs {zs : List Str} (h : ∀ z ∈ zs, PyData.strOk z = true) : PyData.eqv (.list (zs.map PyData.str)) (.list (zs.map PyData.str)) = true :=
  SeqAt.eqv_refl _ (by simp only [PyData.canLay0]; exact lay_strs h)
end GX

set_option Elab.async false
set_option linter.all false
set_option maxRecDepth 100000
set_option maxHeartbeats 4000000
/-! ### own exception classes over any built-in one: made, their fields stored -/
namespace GX
open PySem L2 PySem.Spec PyProof.Rows

/-- what the text must say of such a class -/
structure OxC (K : PySem.W.Frag) (C : Addr) : Prop where
  bas : ∃ (B newId initId : String) (tl : List Value), ExcBaseFacts B newId initId tl ∧
    StoreFacts B tl "object.__setattr__" "object" ∧ PySem.W.excInitIn K C tl newId = true ∧
    PySem.W.excOver K C tl = true
  sa : PySem.W.findIn K (.ref C) "__setattr__" = some (some (.builtin "object.__setattr__"))
  hd : PySem.W.hasDictIn K C = true
  exC : PySem.W.subIn K (.ref C) (.type "BaseException") = some true
  tyC : PySem.W.typeIn K (.ref C) = some (.type "type")
  kC : PySem.W.keepIn K (.ref C) = true
section
variable {X : Cx} {pins : List (Addr × Obj)} {σ : L2.St} {H : Hp} {s : Shared} {a C dx : Addr}
  {f : Str} {y : V} {u : Value} {fs : List (Str × V)} {Q : Unit → Shared → Prop}
  {E : Value → Shared → Prop} {A : Around}
theorem taker_no {K : PySem.W.Frag} (h : PySem.W.findIn K (.ref C) f = some none) :
    PySem.W.takerIn K C f = some none := by
  unfold PySem.W.takerIn
  rw [h]
  rfl
/-- the state behind the first field's store -/
theorem inv_exd {hp h' : Heap} {g : Array GenState} {d : Drawn} {t tk : Nat} {os : OsState} {t1 : Addr}
    (I : Inv X pins σ H ⟨hp, g, d, t, os⟩) (e : H a = some (exo a C none))
    (k : ∀ b o, b ≠ a → hp.get? b = some o → h'.get? b = some o) (dn : hp.objs.size ≤ dx)
    (hx : h'.get? a = some ({ cls := .ref C, dict := some dx, data := .fields #[.ref t1, .none, .none, .none, .bool false, .none] } : Obj))
    (hn : h'.Ns1 dx (fun z => if z = f then some u else none)) (ry : RelV y u) :
    Inv X pins σ (upd (upd H dx (exd dx [(f, y)])) a (exo a C (some dx))) ⟨h', g, d, tk, os⟩ := by
  have fr : H dx = none := I.hok.fresh dn
  have off : ∀ {b : Addr} {o : Obj}, hp.get? b = some o → b ≠ dx := by
    intro b o q
    exact Nat.ne_of_lt (Nat.lt_of_lt_of_le (Heap.lt_size q) dn)
  have ofa : ∀ {b : Addr}, H b = none → b ≠ a := by
    rintro b n rfl
    rw [e] at n
    cases n
  refine I.un (t' := tk) ⟨?_, ?_, ?_, ?_, ?_, ?_, ?_⟩ ?_
  · intro b o q n _ _
    exact k b o (ofa n) q
  · intro b o q n _ _
    exact ⟨o.slots, k b o (ofa n) q⟩
  · intro b o q n _
    rw [upd_ne (ofa n), upd_ne (off q)]
    exact n
  · intro b o q _
    by_cases z : b = a
    · subst z
      exact ⟨_, hx⟩
    · exact ⟨o, k b o z q⟩
  · intro b xs q
    rw [upd_ne (L2.at_ne e q exo_tup), upd_ne (ne_of_none q fr)]
    exact q
  · intro b o v q
    rw [upd_ne (L2.at_ne e q exo_frz), upd_ne (ne_of_none q fr)]
    exact q
  · intro b ps q
    refine ⟨#[], ?_⟩
    rw [upd_ne (L2.at_ne e q exo_tbl), upd_ne (ne_of_none q fr), q]
    simp
  · intro b o q
    by_cases z : b = a
    · subst z
      rw [upd_same] at q
      cases q
      exact exo_ok hx
    · rw [upd_ne z] at q
      by_cases z2 : b = dx
      · subst z2
        rw [upd_same] at q
        cases q
        exact exd_ok hn (relO_put (fs := []) ry fun _ => True.intro)
      · rw [upd_ne z2] at q
        refine (I.hok b o q).stay (fun c v hc w => k c v ?_ w) (fun c w => ?_) (fun c xs w => ?_)
        · rcases hc with rfl | hc
          · exact z
          · exact L2.at_ne e hc exo_own
        · rw [upd_ne (L2.at_ne e w exo_own), upd_ne (ne_of_none w fr)]
          exact w
        · rw [upd_ne (L2.at_ne e w exo_tup), upd_ne (ne_of_none w fr)]
          exact w
theorem oxt_new (T : OxC X.K C) (I : Inv X pins σ H s) (e : H a = some (exo a C none))
    (hno : PySem.W.findIn X.K (.ref C) f = some none) (ry : RelV y u)
    (h : ∀ dx s', H dx = none → dx ≠ a → Inv X pins σ (upd (upd H dx (exd dx [(f, y)])) a (exo a C (some dx))) s' → Q () s') :
    wpAny (model X.prog X.w) A (setAttr (.ref a) f u) Q E s := by
  obtain ⟨B, ni, ii, tl, FB, SF, _, ov⟩ := T.bas
  obtain ⟨t1, ho⟩ := exo_at I.hok e
  obtain ⟨hp, g, d, t, os⟩ := s
  obtain ⟨cd, hc, hcd⟩ := PySem.W.any_some T.hd
  refine PySem.W.set_plain I.kIn (od := none) ⟨ho, rfl, rfl, trivial⟩ T.sa ?_
  refine PySem.W.osa_openX (od := none) SF I.kIn ⟨ho, rfl, rfl, trivial⟩ ov (taker_no hno) ?_
  intro b
  have hcls : PySem.W.Looks (model X.prog X.w) hp (classData C) cd := PySem.W.looks_clsIn I.kIn hc
  have hxs : a ≠ hp.objs.size := Nat.ne_of_lt (Heap.lt_size ho)
  obtain ⟨nm, bs, mro, ns, qn, hd, sn, sb, ab, col, del⟩ := cd
  dsimp only at hcd
  subst hcd
  show wpAny _ _ (Builtin.ObjectAttr.storeInOwnDict (.ref a) (.ref C) _ f u b) _ _ _
  unfold Builtin.ObjectAttr.storeInOwnDict Builtin.ObjectAttr.ownDictForStores
  repeat (first | with_reducible refine PySem.HandSPX.store_in_new ?_ ?_ | with_reducible refine wpAny_loadPart_at ho ?_ | with_reducible refine hcls.at ?_ | wp_step)
  · exact ⟨_, #[], _, (Heap.get?_update_ne _ _ _ _ hxs.symm).trans (Heap.get?_push_at rfl rfl), rfl, fun e he => absurd he (by simp), fun _ => rfl⟩
  · intro h' tk' hn hs
    have k : ∀ b o, b ≠ a → hp.get? b = some o → h'.get? b = some o := by
      intro b o z q
      rw [hs.2 b (Nat.ne_of_lt (Heap.lt_size q)), Heap.get?_update_ne _ _ _ _ z]
      exact Heap.get?_push_of_some _ q
    have hx : h'.get? a = some ({ cls := .ref C, dict := some hp.objs.size, data := .fields #[.ref t1, .none, .none, .none, .bool false, .none] } : Obj) :=
      (hs.2 a hxs).trans (Heap.get?_update_self _ (Heap.get?_push_of_some _ ho) rfl)
    exact h _ _ (I.hok.fresh (Nat.le_refl _)) hxs.symm (inv_exd I e k (Nat.le_refl _) hx hn ry)
/-- a further field -/
theorem oxt_old (T : OxC X.K C) (I : Inv X pins σ H s) (e : H a = some (exo a C (some dx)))
    (ed : H dx = some (exd dx fs)) (hl : fs.length ≤ 900) (hno : PySem.W.findIn X.K (.ref C) f = some none) (ry : RelV y u)
    (h : ∀ s', Inv X pins σ (upd H dx (exd dx ((f, y) :: fs))) s' → Q () s') :
    wpAny (model X.prog X.w) A (setAttr (.ref a) f u) Q E s := by
  obtain ⟨B, ni, ii, tl, FB, SF, _, ov⟩ := T.bas
  obtain ⟨t1, ho⟩ := exo_at I.hok e
  obtain ⟨mA, hns, rel⟩ := exd_at I.hok ed
  have hw := within_of rel
  obtain ⟨hp, g, d, t, os⟩ := s
  obtain ⟨oD, _, _, hoD, _, _⟩ := hns.count hw
  obtain ⟨cd, hc, hcd⟩ := PySem.W.any_some T.hd
  refine PySem.W.set_plain I.kIn (od := some oD) ⟨ho, rfl, rfl, hoD⟩ T.sa ?_
  refine PySem.W.osa_openX (od := some oD) SF I.kIn ⟨ho, rfl, rfl, hoD⟩ ov (taker_no hno) ?_
  intro b
  have hcls : PySem.W.Looks (model X.prog X.w) hp (classData C) cd := PySem.W.looks_clsIn I.kIn hc
  obtain ⟨nm, bs, mro, ns, qn, hd, sn, sb, ab, col, del⟩ := cd
  dsimp only at hcd
  subst hcd
  show wpAny _ _ (Builtin.ObjectAttr.storeInOwnDict (.ref a) (.ref C) _ f u b) _ _ _
  unfold Builtin.ObjectAttr.storeInOwnDict Builtin.ObjectAttr.ownDictForStores
  have hz : (fs.map (·.1)).length ≤ 1000 := by
    rw [List.length_map]
    omega
  repeat (first | with_reducible refine PySem.OEX.store_in_old hns hw hz ?_ | with_reducible refine wpAny_loadPart_at ho ?_ | with_reducible refine hcls.at ?_ | wp_step)
  intro h' tk' hn hs
  obtain ⟨o2, _, _, e2, _⟩ := id hn
  exact h _ (I.write (t' := tk') (x := dx) (e := dx) (o := exd dx ((f, y) :: fs)) (by rw [ed]; exact True.intro) (.inl rfl)
    (fun b o z q => (hs.2 b z).trans q) ⟨o2, e2⟩ (exd_ok hn (relO_put ry rel)))
end

/-! ### the rules -/
/-- self.f = e, self an exception that is being made -/
def tOx (K : PySem.W.Frag) (f : Str) (to te : TE) : TS := fun D σ H => te σ H fun y H1 => to σ H1 fun x H2 =>
  ∃ a C : Addr, x = .ref a ∧ OxC K C ∧ PySem.W.findIn K (.ref C) f = some none ∧
    ((H2 a = some (exo a C none) ∧ ∀ dx, H2 dx = none → dx ≠ a → D.nx σ (upd (upd H2 dx (exd dx [(f, y)])) a (exo a C (some dx)))) ∨
     ∃ (dx : Addr) (fs : List (Str × V)), H2 a = some (exo a C (some dx)) ∧ H2 dx = some (exd dx fs) ∧ fs.length ≤ 900 ∧
       D.nx σ (upd H2 dx (exd dx ((f, y) :: fs))))
section
variable {X : Cx} {o e : Expr} {es : List Expr} {to te : TE} {ta : TA} {f : Str} {p p' p1 p2 pos : Pos}
theorem ps_ox (ho : PE X o to) (he : PE X e te)
    (hs : swapsWith e (some (.Attribute o f p')) pos.line X.env = pure false := by rfl) :
    PS X (.Assign [.Attribute o f p'] e pos) (tOx X.K f to te) := by
  refine ⟨fun pins s σ H D I h => plainObj_wpAny_Assign_Attribute ?_ hs⟩
  refine thn (he.run pins s σ H _ I h) ?_
  rintro v s1 ⟨y, H1, I1, r1, q1⟩
  refine thn (ho.run pins s1 σ H1 _ I1 q1) ?_
  rintro u s2 ⟨x, H2, I2, r2, a, C, rfl, T, hno, q⟩
  obtain rfl : u = Value.ref a := r2
  rcases q with ⟨ea, q⟩ | ⟨dx, fs, ea, ed, hl, q⟩
  · exact oxt_new T I2 ea hno r1 fun dx s' n ne J => ⟨σ, _, J, q dx n ne⟩
  · exact oxt_old T I2 ea ed hl hno r1 fun s' J => ⟨σ, _, J, q⟩
/-- C.m(e, ..), a def read off its class -/
structure CDef (K : PySem.W.Frag) (C : Addr) (m : Str) (f : Addr) : Prop where
  ga : PySem.W.specialIn K (.ref C) "__getattribute__" = some (some (.builtin "type.__getattribute__"))
  rd : PySem.W.readsIn K C (.type "type") = true
  at_ : PySem.W.findCls K (.ref C) (.type "type") m = some (.val (.ref f))
  kp : PySem.W.keepIn K (.ref f) = true
variable {CX : CXT} {k : Nat} {C f0 : Addr} {fd : FuncData} {ps : List Str} {sp : Sp} {E : XK} {x m : Str}
theorem pe_cdef {pl : Sem Bool} (c : CDef X.K C m f0) (F : FnG X.prog X.w X.K X.mg X.base CX k f0 fd ps sp) (hG : X.A.guards = some [])
    (hr : Room k X.A) (hg : Gl X x) (hm : X.mg x = some (.ref C)) (hb : Binds X.K fd ps []) (hx : Passes CX X E) (ha : PA X (e :: es) ta)
    (hdb : (x == ("__debug__" : Str)) = false := by decide)
    (hst : starEach (e :: es) X.env = (false, eval e X.env) :: starEach es X.env := by rfl) (hpl : (backTo pos (starEach es X.env)).any (·.1) = false := by rfl)
    (ht : eval (.Call (.Attribute (.Name x p1) m p2) (e :: es) [] pos) X.env = (do
      let ov ← eval (.Name x p1) X.env
      standAt p2.atName
      let (f, first) ← holding [ov] (getMethod ov m pl)
      callWith pos f first (backTo pos (starEach (e :: es) X.env)) (backToKw pos (keywordEach [] X.env))) := by rfl) :
    PE X (.Call (.Attribute (.Name x p1) m p2) (e :: es) [] pos) (tCall sp [] E ta) := by
  refine ⟨fun pins s σ H Q I h => ?_⟩
  refine PySem.W.methodCall_KW (ld_glob I hg hm ?_ hdb) ht
  refine PySem.W.method_cls I.kIn c.ga ?_
  refine PySem.W.cls_value I.kIn c.rd c.at_ (by rfl) ?_
  show wpAny _ _ (callWith pos (Value.ref f0) [] (backTo pos (starEach (e :: es) X.env)) []) _ _ _
  refine PySem.W.callWith_K (h₀ := X.base) I.ok.mod.kin c.kp (thn (ha.run pos pins _ σ H _ (I.tok (s.toks + 1)) h) ?_) hst hpl
  rintro us s1 ⟨vs, H1, I1, r, q⟩
  exact ⟨I1.kIn, run_fnG F hG hr hb .nil hx I1 r q⟩
end

/-! ### C(e, ..), an exception -/
/-- C's __init__ stands at fI -/
structure OxI (K : PySem.W.Frag) (C fI : Addr) : Prop where
  cls : OxC K C
  ini : PySem.W.findIn K (.ref C) "__init__" = some (some (.ref fI))
  fn : PySem.W.typeIn K (.ref fI) = some (.type "function")
section
variable {X : Cx} {CX : CXT} {k : Nat} {C fI : Addr} {fd : FuncData} {ps : List Str} {sp : Sp} {E : XK} {pins : List (Addr × Obj)} {σ : L2.St} {H : Hp} {s : Shared}
/-- the call of the class: what its __init__ leaves -/
theorem run_ox {us : List Value} {vs : List V} {R : Addr → Hp → Prop} {Q : Value → Shared → Prop} (T : OxI X.K C fI) (F1 : FnG X.prog X.w X.K X.mg X.base CX k fI fd ps sp) (hG : X.A.guards = some []) (hr : Room (k + 1) X.A)
    (hb : Binds X.K fd ps []) (hx : Passes CX X (fun _ _ _ => False)) (I : Inv X pins σ H s) (r : Vals vs us) (hl : vs.length ≤ 1000)
    (hq : ∀ a, H a = none → sp (.ref a :: vs) (upd H a (exo a C none)) (fun v H2 => v = .non ∧ R a H2) (fun _ _ _ => False))
    (h : ∀ a hp2 s' H2, s.heap.objs.size ≤ a → (∀ b o, s.heap.get? b = some o → hp2.get? b = some o) → Inv X pins σ (upd H a (exo a C none)) { s with heap := hp2 } →
      Un (frs X.stack) [] (upd H a (exo a C none)) H2 hp2 s'.heap → HOk X.prog X.w H2 s'.heap → s'.os = s.os → AllBare s'.gens → Inv X pins σ H2 s' → R a H2 → Q (.ref a) s') :
    wpAny (model X.prog X.w) X.A (call (.ref C) us) Q X.xe s := by
  obtain ⟨B, ni, ii, tl, FB, SF, q0, ov⟩ := T.cls.bas
  have KX := I.kIn
  obtain ⟨nm, N, qn, bs, bm, hdct, sn, sub, ab, col, dd, k0, k1, k2, k3, k5, hC, hT⟩ := PySem.W.excInit_of KX q0
  obtain ⟨hp, g, dr, tk, os⟩ := s
  have up : ∀ b o, hp.get? b = some o → ((hp.push (PySem.W.kdv_tup us)).push (PySem.HandSPX.excO C hp.objs.size)).get? b = some o :=
    fun b o e => Heap.get?_push_of_some _ (Heap.get?_push_of_some _ e)
  have at_ : ((hp.push (PySem.W.kdv_tup us)).push (PySem.HandSPX.excO C hp.objs.size)).get? (hp.objs.size + 1) = some (PySem.HandSPX.excO C hp.objs.size) := by heap_get
  have fr : H (hp.objs.size + 1) = none := I.hok.fresh (Nat.le_succ _)
  have J : Inv X pins σ (upd H (hp.objs.size + 1) (exo (hp.objs.size + 1) C none)) ⟨(hp.push (PySem.W.kdv_tup us)).push (PySem.HandSPX.excO C hp.objs.size), g, dr, tk, os⟩ :=
    I.laid (t' := tk) (a := hp.objs.size + 1) up (Nat.le_succ _) (exo_ok at_)
  have w := hq _ fr
  have r2 : Vals (V.ref (hp.objs.size + 1) :: vs) (Value.ref (hp.objs.size + 1) :: us) := .cons rfl r
  have hn : (Value.ref (hp.objs.size + 1) :: us).length = ps.length := r2.length ▸ F1.len _ _ _ _ w
  have few : us.length ≤ sizeLine := by
    rw [← Paired.length r, sizeLine_eq]
    omega
  have b2 := hb _ (Value.ref (hp.objs.size + 1) :: us) J.kIn (by rw [List.append_nil]; exact hn)
  rw [List.append_nil] at b2
  have z := F1.run _ X.stack _ _ ⟨Value.ref (hp.objs.size + 1) :: us, []⟩ _ _ _ (fun _ _ _ => False) (guards_make hG) (hr.make C us []) (J.env0.make C us []) b2 r2 w
  refine wpAny_call (PySem.PX.call_own FB hT hC (PySem.W.looks_findIn KX T.ini) (fun self => PySem.W.bind_fn KX self T.fn) few (codeAny_mono z ?_))
  intro r s' hq'
  match r, hq' with
  | .error er, hq' => exact hx pins σ _ _ er s' J hq'
  | .ok (.ret u), hq' =>
    obtain ⟨v, H2, os2, bare2, un2, hok2, rv, rfl, q2⟩ := id hq'
    obtain ⟨_, H3, J3, _, _, q3⟩ := J.after (Q := fun v H3 => v = .non ∧ H3 = H2) ⟨.non, H2, os2, bare2, un2, hok2, rv, rfl, rfl⟩
    subst q3
    exact ⟨rv, h _ _ s' _ (Nat.le_succ _) up J un2 hok2 os2 bare2 J3 q2⟩
/-- what is wanted of an exception that is made to be raised -/
abbrev MkQ (H : Hp) (C : Addr) (Q : XK) : Addr → Hp → Prop := fun a H2 => ∃ (d : Addr) (fs : List (Str × V)), H2 a = some (exo a C (some d)) ∧ H2 d = some (exd d fs) ∧ H d = none ∧ Q (.ref C) (some d) (upd (del H2 a) d (.xd fs))
def tMk (C : Addr) (sp : Sp) (ta : TA) : L2.St → Hp → XK → Prop := fun σ H Q => ta σ H fun vs H1 => vs.length ≤ 1000 ∧ ∀ a, H1 a = none → sp (.ref a :: vs) (upd H1 a (exo a C none)) (fun v H2 => v = .non ∧ MkQ H1 C Q a H2) (fun _ _ _ => False)
/-- .. that is kept as a value -/
def tMkV (C : Addr) (sp : Sp) (ta : TA) : TE := fun σ H Q => ta σ H fun vs H1 => vs.length ≤ 1000 ∧ ∀ a, H1 a = none → sp (.ref a :: vs) (upd H1 a (exo a C none)) (fun v H2 => v = .non ∧ Q (.ref a) H2) (fun _ _ _ => False)
theorem mk_ends (T : OxC X.K C) {us : List Value} {vs : List V} {Q : XK} (I : Inv X pins σ H s) (a : Addr) (hp2 : Heap) (s' : Shared) (H2 : Hp) (ha : s.heap.objs.size ≤ a) (k : ∀ b o, s.heap.get? b = some o → hp2.get? b = some o)
    (un : Un (frs X.stack) [] (upd H a (exo a C none)) H2 hp2 s'.heap) (hok : HOk X.prog X.w H2 s'.heap) (ho : s'.os = s.os) (hb : AllBare s'.gens) (q : MkQ H C Q a H2) : MkP X pins σ Q (.ref a) s' := by
  obtain ⟨d, fs, ea, ed, hd1, q⟩ := q
  obtain ⟨h1, g1, d1, t1, o1⟩ := s
  obtain ⟨h2, g2, d2, t2, o2⟩ := s'
  exact mk_end (raises_own T.exC T.tyC) I ha k un hok ho hb ea ed hd1 q
variable {x : Str} {e : Expr} {es : List Expr} {ta : TA} {p pos : Pos}
theorem pmk_ox (T : OxI X.K C fI) (F1 : FnG X.prog X.w X.K X.mg X.base CX k fI fd ps sp) (hG : X.A.guards = some []) (hr : Room (k + 1) X.A) (hb : Binds X.K fd ps []) (hx : Passes CX X (fun _ _ _ => False))
    (hg : Gl X x) (hm : X.mg x = some (.ref C)) (ha : PA X (e :: es) ta) (hdb : (x == ("__debug__" : Str)) = false := by decide)
    (he : starEach (e :: es) X.env = (false, eval e X.env) :: starEach es X.env := by rfl) (hpl : (backTo pos (starEach es X.env)).any (·.1) = false := by rfl) :
    PMk X (.Call (.Name x p) (e :: es) [] pos) (tMk C sp ta) := by
  intro pins s σ H Q I h
  refine wpAny_Call_Name_kw (ld_glob I hg hm ?_ hdb)
  refine PySem.W.callWith_K (h₀ := X.base) I.ok.mod.kin T.cls.kC (thn (ha.run pos pins s σ H _ I h) ?_) he hpl
  rintro us s1 ⟨vs, H1, I1, r1, hz, q1⟩
  exact ⟨I1.kIn, run_ox T F1 hG hr hb hx I1 r1 hz q1 fun a hp2 s' H2 l up _ un hok ho hbr _ q => mk_ends (us := us) (vs := vs) T.cls I1 a hp2 s' H2 l up un hok ho hbr q⟩
theorem pmk_ox0 (T : OxI X.K C fI) (F1 : FnG X.prog X.w X.K X.mg X.base CX k fI fd ps sp) (hG : X.A.guards = some []) (hr : Room (k + 1) X.A) (hb : Binds X.K fd ps []) (hx : Passes CX X (fun _ _ _ => False))
    (hg : Gl X x) (hm : X.mg x = some (.ref C)) (hdb : (x == ("__debug__" : Str)) = false := by decide) :
    PMk X (.Call (.Name x p) [] [] pos) (tMk C sp tNil) := by
  intro pins s σ H Q I h
  refine wpAny_Call_Name_kw (ld_glob I hg hm ?_ hdb)
  refine PySem.W.callWith_K0 I.kIn T.cls.kC ?_
  exact run_ox (us := []) (vs := []) T F1 hG hr hb hx I .nil h.1 h.2 fun a hp2 s' H2 l up _ un hok ho hbr _ q => mk_ends (us := []) (vs := []) T.cls I a hp2 s' H2 l up un hok ho hbr q
theorem pe_ox (T : OxI X.K C fI) (F1 : FnG X.prog X.w X.K X.mg X.base CX k fI fd ps sp) (hG : X.A.guards = some []) (hr : Room (k + 1) X.A) (hb : Binds X.K fd ps []) (hx : Passes CX X (fun _ _ _ => False))
    (hg : Gl X x) (hm : X.mg x = some (.ref C)) (ha : PA X (e :: es) ta) (hdb : (x == ("__debug__" : Str)) = false := by decide)
    (he : starEach (e :: es) X.env = (false, eval e X.env) :: starEach es X.env := by rfl) (hpl : (backTo pos (starEach es X.env)).any (·.1) = false := by rfl) :
    PE X (.Call (.Name x p) (e :: es) [] pos) (tMkV C sp ta) := by
  refine ⟨fun pins s σ H Q I h => ?_⟩
  refine wpAny_Call_Name_kw (ld_glob I hg hm ?_ hdb)
  refine PySem.W.callWith_K (h₀ := X.base) I.ok.mod.kin T.cls.kC (thn (ha.run pos pins s σ H _ I h) ?_) he hpl
  rintro us s1 ⟨vs, H1, I1, r1, hz, q1⟩
  exact ⟨I1.kIn, run_ox T F1 hG hr hb hx I1 r1 hz q1 fun a hp2 s' H2 l up _ un hok ho hbr J q => ⟨.ref a, H2, J, rfl, q⟩⟩
theorem pe_ox0 (T : OxI X.K C fI) (F1 : FnG X.prog X.w X.K X.mg X.base CX k fI fd ps sp) (hG : X.A.guards = some []) (hr : Room (k + 1) X.A) (hb : Binds X.K fd ps []) (hx : Passes CX X (fun _ _ _ => False))
    (hg : Gl X x) (hm : X.mg x = some (.ref C)) (hdb : (x == ("__debug__" : Str)) = false := by decide) :
    PE X (.Call (.Name x p) [] [] pos) (tMkV C sp tNil) := by
  refine ⟨fun pins s σ H Q I h => ?_⟩
  refine wpAny_Call_Name_kw (ld_glob I hg hm ?_ hdb)
  refine PySem.W.callWith_K0 I.kIn T.cls.kC ?_
  exact run_ox (us := []) (vs := []) T F1 hG hr hb hx I .nil h.1 h.2 fun a hp2 s' H2 l up _ un hok ho hbr J q => ⟨.ref a, H2, J, rfl, q⟩
end
end GX

set_option Elab.async false
set_option linter.all false
set_option maxRecDepth 100000
set_option maxHeartbeats 4000000
/-! ### known objects put under a lock for a call, and taken out again -/
namespace GX
open PySem L2 PySem.Spec PyProof.Rows

/-- known to the object -/
def pinO (o : Obj) (a : Addr) : HO := .frz o (.ext fun h => h.get? a = some o)
theorem pinO_ok {P : Program} {w : World} {H : Hp} {h : Heap} {a : Addr} {o : Obj} (e : h.get? a = some o) : ObjOk P w H h a (pinO o a) :=
  ⟨e, e, ⟨o, e⟩, fun _ _ x k => k o x⟩
theorem pinO_get {P : Program} {w : World} {H : Hp} {h : Heap} {a : Addr} {o : Obj} (x : HOk P w H h) (e : H a = some (pinO o a)) : h.get? a = some o := (x a _ e).1
def pinA (S : List (Addr × Obj)) (H : Hp) : Hp := fun b => match S.lookup b with | some o => some (pinO o b) | none => H b
def unpinA (S : List (Addr × Obj)) (H : Hp) : Hp := fun b => match S.lookup b with | some _ => none | none => H b
section
variable {S : List (Addr × Obj)} {H H' : Hp} {b : Addr} {o : Obj}
theorem pinA_in (e : S.lookup b = some o) : pinA S H b = some (pinO o b) := by unfold pinA; rw [e]
theorem pinA_out (e : S.lookup b = none) : pinA S H b = H b := by unfold pinA; rw [e]
theorem unpinA_in (e : S.lookup b = some o) : unpinA S H b = none := by unfold unpinA; rw [e]
theorem unpinA_out (e : S.lookup b = none) : unpinA S H b = H b := by unfold unpinA; rw [e]
theorem unpin_pin (f : ∀ b o, S.lookup b = some o → H b = none) : unpinA S (pinA S H) = H := by
  funext b
  cases e : S.lookup b with
  | none => rw [unpinA_out e, pinA_out e]
  | some o => rw [unpinA_in e, f b o e]
theorem pin_unpin (f : ∀ b o, S.lookup b = some o → H b = some (pinO o b)) : pinA S (unpinA S H) = H := by
  funext b
  cases e : S.lookup b with
  | none => rw [pinA_out e, unpinA_out e]
  | some o => rw [pinA_in e, f b o e]
theorem pinO_own {a x : Addr} : pinO o a ≠ .own x := fun z => by
  have z' : HO.frz _ _ = HO.own x := z
  cases z'
theorem pinO_tup {a : Addr} {xs : List V} : pinO o a ≠ .tup xs := fun z => by
  have z' : HO.frz _ _ = HO.tup xs := z
  cases z'
theorem pinO_tbl {a : Addr} {xs : Array Value} : pinO o a ≠ .tbl xs := fun z => by
  have z' : HO.frz _ _ = HO.tbl xs := z
  cases z'
end
/-- the objects that are known, out of the reach of frames and the base -/
structure KnownS (S : List (Addr × Obj)) (h base : Heap) (fs : List Addr) : Prop where
  get : ∀ b o, S.lookup b = some o → h.get? b = some o
  nofs : ∀ b o, S.lookup b = some o → b ∉ fs
  nobs : ∀ b o, S.lookup b = some o → base.get? b = none
section
variable {P : Program} {w : World} {K : PySem.W.Frag} {mg : Str → Option Value} {base : Heap} {S : List (Addr × Obj)} {outer : List Env} {H H' : Hp} {s s' : Shared} {A : Around} {h h' B : Heap} {fs : List Addr}
theorem hok_pin (x : HOk P w H h) (g : ∀ b o, S.lookup b = some o → h.get? b = some o) (n : ∀ b o, S.lookup b = some o → H b = none) : HOk P w (pinA S H) h := by
  intro b u e
  cases q : S.lookup b with
  | some o =>
    rw [pinA_in q] at e
    cases e
    exact pinO_ok (g b o q)
  | none =>
    rw [pinA_out q] at e
    have out : ∀ c v, H c = some v → S.lookup c = none := by
      intro c v z
      cases q2 : S.lookup c with
      | none => rfl
      | some o2 => rw [n c o2 q2] at z; cases z
    refine (x b u e).stay (fun _ _ _ z => z) (fun c z => ?_) (fun c xs z => ?_)
    · rw [pinA_out (out c _ z)]; exact z
    · rw [pinA_out (out c _ z)]; exact z
theorem hok_unpin (x : HOk P w H h) (n : ∀ b o, S.lookup b = some o → H b = some (pinO o b)) : HOk P w (unpinA S H) h := by
  intro b u e
  cases q : S.lookup b with
  | some o => rw [unpinA_in q] at e; cases e
  | none =>
    rw [unpinA_out q] at e
    refine (x b u e).stay (fun _ _ _ z => z) (fun c z => ?_) (fun c xs z => ?_)
    · cases q2 : S.lookup c with
      | none => rw [unpinA_out q2]; exact z
      | some o2 => rw [n c o2 q2] at z; exact absurd (Option.some.inj z) pinO_own
    · cases q2 : S.lookup c with
      | none => rw [unpinA_out q2]; exact z
      | some o2 => rw [n c o2 q2] at z; exact absurd (Option.some.inj z) pinO_tup
theorem env0_pin (e : Env0 P w K mg base A outer s H) (k : KnownS S s.heap base (frs outer)) (n : ∀ b o, S.lookup b = some o → H b = none) : Env0 P w K mg base A outer s (pinA S H) := by
  refine ⟨e.frames, e.mod, fun b o z => ⟨(e.bs b o z).1, ?_⟩, e.bsz, e.funs, fun b z => ?_, hok_pin e.hok k.get n, e.bare⟩
  · cases q : S.lookup b with
    | none => rw [pinA_out q]; exact (e.bs b o z).2
    | some o2 => rw [k.nobs b o2 q] at z; cases z
  · cases q : S.lookup b with
    | none => rw [pinA_out q]; exact e.frf b z
    | some o2 => exact absurd z (k.nofs b o2 q)
theorem env0_unpin (e : Env0 P w K mg base A outer s H) (n : ∀ b o, S.lookup b = some o → H b = some (pinO o b)) : Env0 P w K mg base A outer s (unpinA S H) := by
  refine ⟨e.frames, e.mod, fun b o z => ⟨(e.bs b o z).1, ?_⟩, e.bsz, e.funs, fun b z => ?_, hok_unpin e.hok n, e.bare⟩
  · cases q : S.lookup b with
    | none => rw [unpinA_out q]; exact (e.bs b o z).2
    | some o2 => rw [unpinA_in q]
  · cases q : S.lookup b with
    | none => rw [unpinA_out q]; exact e.frf b z
    | some o2 => rw [unpinA_in q]
/-- what is kept from the pinned start is kept from the start -/
theorem un_unpin (u : Un fs [] (pinA S H) H' h h') (g : ∀ b o, S.lookup b = some o → h.get? b = some o) (g' : ∀ b o, S.lookup b = some o → h'.get? b = some o) (n : ∀ b o, S.lookup b = some o → H b = none) : Un fs [] H (unpinA S H') h h' := by
  have out : ∀ c v, H c = some v → S.lookup c = none := by
    intro c v z
    cases q2 : S.lookup c with
    | none => rfl
    | some o2 => rw [n c o2 q2] at z; cases z
  refine ⟨fun b o e z hb hx => ?_, fun b o e z hb hx => ?_, fun b o e z hx => ?_, u.there, fun b xs e => ?_, fun b o v e => ?_, fun b ps e => ?_⟩
  · cases q : S.lookup b with
    | some o2 => rw [g b o2 q] at e; rw [g' b o2 q]; exact e
    | none => exact u.keep b o e (by rw [pinA_out q]; exact z) hb hx
  · cases q : S.lookup b with
    | some o2 => rw [g b o2 q] at e; cases e; exact ⟨o.slots, g' b o q⟩
    | none => exact u.slot b o e (by rw [pinA_out q]; exact z) hb hx
  · cases q : S.lookup b with
    | some o2 => exact unpinA_in q
    | none => rw [unpinA_out q]; exact u.free b o e (by rw [pinA_out q]; exact z) hx
  · rw [unpinA_out (out b _ e)]; exact u.tups b xs (by rw [pinA_out (out b _ e)]; exact e)
  · rw [unpinA_out (out b _ e)]; exact u.frzs b o v (by rw [pinA_out (out b _ e)]; exact e)
  · rw [unpinA_out (out b _ e)]; exact u.tbls b ps (by rw [pinA_out (out b _ e)]; exact e)
/-- .. and the other way round: S is pinned at the start, taken out for the run -/
theorem un_pin (u : Un fs [] (unpinA S H) H' h h') (g : ∀ b o, S.lookup b = some o → h.get? b = some o) (n : ∀ b o, S.lookup b = some o → H b = some (pinO o b)) : Un fs [] H (pinA S H') h h' := by
  have out : ∀ b, H b = none → S.lookup b = none := by
    intro b z
    cases q2 : S.lookup b with
    | none => rfl
    | some o2 => rw [n b o2 q2] at z; cases z
  refine ⟨fun b o e z hb hx => ?_, fun b o e z hb hx => ?_, fun b o e z hx => ?_, u.there, fun b xs e => ?_, fun b o v e => ?_, fun b ps e => ?_⟩
  · exact u.keep b o e (by rw [unpinA_out (out b z)]; exact z) hb hx
  · exact u.slot b o e (by rw [unpinA_out (out b z)]; exact z) hb hx
  · rw [pinA_out (out b z)]; exact u.free b o e (by rw [unpinA_out (out b z)]; exact z) hx
  · cases q : S.lookup b with
    | some o2 => rw [n b o2 q] at e; exact absurd (Option.some.inj e) pinO_tup
    | none => rw [pinA_out q]; exact u.tups b xs (by rw [unpinA_out q]; exact e)
  · cases q : S.lookup b with
    | some o2 => rw [n b o2 q] at e; rw [pinA_in q]; exact e
    | none => rw [pinA_out q]; exact u.frzs b o v (by rw [unpinA_out q]; exact e)
  · cases q : S.lookup b with
    | some o2 => rw [n b o2 q] at e; exact absurd (Option.some.inj e) pinO_tbl
    | none => rw [pinA_out q]; exact u.tbls b ps (by rw [unpinA_out q]; exact e)
/-- a call's end, seen without the pins -/
theorem cr_unpin {Q Q' : VK} {E E' : XK} {r : Result} (k : KnownS S s.heap base (frs outer)) (n : ∀ b o, S.lookup b = some o → H b = none)
    (hQ : ∀ v H', (∀ b o, S.lookup b = some o → H' b = some (pinO o b)) → Q v H' → Q' v (unpinA S H')) (hE : ∀ c d H', (∀ b o, S.lookup b = some o → H' b = some (pinO o b)) → E c d H' → E' c d (unpinA S H'))
    (c : CR (L2.CX P w) outer P w (pinA S H) s Q E r s') : CR (L2.CX P w) outer P w H s Q' E' r s' := by
  match r, c with
  | .ok (.ret u), ⟨v, H', os, bare, un, hok, rv, q⟩ =>
    have at_ : ∀ b o, S.lookup b = some o → H' b = some (pinO o b) := fun b o e => un.frzs b o _ (pinA_in e)
    exact ⟨v, _, os, bare, un_unpin un k.get (fun b o e => pinO_get hok (at_ b o e)) n, hok_unpin hok at_, rv, hQ v H' at_ q⟩
  | .error u, ⟨a, B, H', cls, d, e1, fl, hok, ub, na, os, ag, hE'⟩ =>
    have at_ : ∀ b o, S.lookup b = some o → H' b = some (pinO o b) := fun b o e => ub.frzs b o _ (pinA_in e)
    have out : ∀ c v, H c = some v → S.lookup c = none := by
      intro c v z
      cases q2 : S.lookup c with
      | none => rfl
      | some o2 => rw [n c o2 q2] at z; cases z
    have gB : ∀ b o, S.lookup b = some o → B.get? b = some o := fun b o e => pinO_get hok (at_ b o e)
    refine ⟨a, B, unpinA S H', cls, d, e1, fl, hok_unpin hok at_, ⟨fun b o e z hb => ?_, ub.slot, fun b o e z => ?_, ub.there, fun b xs e => ?_, fun b o v e => ?_, fun b ps e => ?_⟩, ?_, os, ag, hE cls d H' at_ hE'⟩
    · cases q : S.lookup b with
      | some o2 => rw [k.get b o2 q] at e; rw [gB b o2 q]; exact e
      | none => exact ub.keep b o e (by rw [pinA_out q]; exact z) hb
    · cases q : S.lookup b with
      | some o2 => exact unpinA_in q
      | none => rw [unpinA_out q]; exact ub.free b o e (by rw [pinA_out q]; exact z)
    · rw [unpinA_out (out b _ e)]; exact ub.tups b xs (by rw [pinA_out (out b _ e)]; exact e)
    · rw [unpinA_out (out b _ e)]; exact ub.frzs b o v (by rw [pinA_out (out b _ e)]; exact e)
    · rw [unpinA_out (out b _ e)]; exact ub.tbls b ps (by rw [pinA_out (out b _ e)]; exact e)
    · cases q : S.lookup a with
      | some o2 => exact unpinA_in q
      | none => rw [unpinA_out q]; exact na
theorem cr_pin {Q Q' : VK} {E E' : XK} {r : Result} (k : KnownS S s.heap base (frs outer)) (n : ∀ b o, S.lookup b = some o → H b = some (pinO o b))
    (hQ : ∀ v H', (∀ b o, S.lookup b = some o → H' b = none) → Q v H' → Q' v (pinA S H')) (hE : ∀ c d H', (∀ b o, S.lookup b = some o → H' b = none) → E c d H' → E' c d (pinA S H'))
    (c : CR (L2.CX P w) outer P w (unpinA S H) s Q E r s') : CR (L2.CX P w) outer P w H s Q' E' r s' := by
  match r, c with
  | .ok (.ret u), ⟨v, H', os, bare, un, hok, rv, q⟩ =>
    have g' : ∀ b o, S.lookup b = some o → s'.heap.get? b = some o := fun b o e => un.keep b o (k.get b o e) (unpinA_in e) (k.nofs b o e) (by simp)
    have no : ∀ b o, S.lookup b = some o → H' b = none := fun b o e => un.free b o (k.get b o e) (unpinA_in e) (by simp)
    exact ⟨v, _, os, bare, un_pin un k.get n, hok_pin hok g' no, rv, hQ v H' no q⟩
  | .error u, ⟨a, B, H', cls, d, e1, fl, hok, ub, na, os, ag, hE'⟩ =>
    have out : ∀ b, H b = none → S.lookup b = none := by
      intro b z
      cases q2 : S.lookup b with
      | none => rfl
      | some o2 => rw [n b o2 q2] at z; cases z
    have gB : ∀ b o, S.lookup b = some o → B.get? b = some o := fun b o e => ub.keep b o (k.get b o e) (unpinA_in e) (k.nofs b o e)
    have no : ∀ b o, S.lookup b = some o → H' b = none := fun b o e => ub.free b o (k.get b o e) (unpinA_in e)
    refine ⟨a, B, pinA S H', cls, d, e1, fl, hok_pin hok gB no, ⟨fun b o e z hb => ?_, ub.slot, fun b o e z => ?_, ub.there, fun b xs e => ?_, fun b o v e => ?_, fun b ps e => ?_⟩, ?_, os, ag, hE cls d H' no hE'⟩
    · exact ub.keep b o e (by rw [unpinA_out (out b z)]; exact z) hb
    · rw [pinA_out (out b z)]; exact ub.free b o e (by rw [unpinA_out (out b z)]; exact z)
    · cases q : S.lookup b with
      | some o2 => rw [n b o2 q] at e; exact absurd (Option.some.inj e) pinO_tup
      | none => rw [pinA_out q]; exact ub.tups b xs (by rw [unpinA_out q]; exact e)
    · cases q : S.lookup b with
      | some o2 => rw [n b o2 q] at e; rw [pinA_in q]; exact e
      | none => rw [pinA_out q]; exact ub.frzs b o v (by rw [unpinA_out q]; exact e)
    · cases q : S.lookup b with
      | some o2 => rw [n b o2 q] at e; exact absurd (Option.some.inj e) pinO_tbl
      | none => rw [pinA_out q]; exact ub.tbls b ps (by rw [unpinA_out q]; exact e)
    · cases q : S.lookup a with
      | none => rw [pinA_out q]; exact na
      | some o2 =>
        exfalso
        obtain ⟨_, en, _⟩ := fl
        have := gB a o2 q
        rw [en] at this
        cases this
end
end GX

set_option Elab.async false
set_option linter.all false
set_option maxRecDepth 100000
set_option maxHeartbeats 4000000
/-! ### lambdas without arguments: known closures, called -/
namespace GX
open PySem L2 PySem.Spec PyProof.Rows

/-- a lambda's text, its cells, the name of its parameter with a default (0) -/
structure CloF where
  q : Str
  params : Arguments
  body : Expr
  scope : Scope
  cl : List (Str × Addr)
  dn : Option Str
abbrev cloFn (F : CloF) (dV doc pm cd ct : Value) : FuncData := PySem.W.kdv_fn "<lambda>" F.q F.params (.expr F.body) F.scope F.cl dV doc pm cd ct
abbrev cloObj (F : CloF) (dV doc pm : Value) (c' : Addr) (ctv : Value) : Obj := PySem.W.kdv_obj "<lambda>" F.q F.params (.expr F.body) F.scope F.cl dV doc pm c' ctv
def DfOk (H : Hp) (dn : Option Str) (dV : Value) : Prop := match dn with
  | none => dV = .none
  | some _ => ∃ t, dV = .ref t ∧ H t = some (.tup [.int 0])
def CloAt (G H : Hp) (f : Addr) (F : CloF) : Prop := ∃ (dV doc pm : Value) (c' : Addr) (ctv : Value), H f = some (pinO (cloObj F dV doc pm c' ctv) f) ∧ G c' = some (LamX.CodeO c' F.q) ∧ DfOk G F.dn dV
def BindF (F : CloF) : Prop := match F.dn with
  | none => ∀ doc pm cd ct : Value, bindArgs (cloFn F .none doc pm cd ct) ⟨[], []⟩ = pure []
  | some n => ∀ dV doc pm cd ct : Value, ∃ k : Option (Array Value) → Sem (List (Str × Value)), bindArgs (cloFn F dV doc pm cd ct) ⟨[], []⟩ = seqItems? dV >>= k ∧ ∀ v : Value, k (some #[v]) = pure [(n, v)]
/-- the lambda's names: captured ones and globals; its parameter is none of the slots -/
structure LamG (F : CloF) (N : List Str) : Prop where
  kind : F.scope.kind = .function
  co : F.scope.isCoroutine = false
  gen : F.scope.isGenerator = false
  noc : ∀ y ∈ F.scope.names, y.2 ≠ .cell
  loc : ∀ y ∈ F.scope.names, y.2 = .local → y.1 ∉ N
  free : ∀ y ∈ F.scope.names, y.2 = .free → ∃ c, F.cl.lookup y.1 = some c
  inj : ∀ x y c, F.cl.lookup x = some c → F.cl.lookup y = some c → x = y
  dn : ∀ n, F.dn = some n → F.scope.names.lookup n = some .local
abbrev envL (F : CloF) (L f c' : Addr) : Env := PySem.W.envX F.q F.scope L f (.ref c') F.cl
def cxL (P : Program) (w : World) (K : PySem.W.Frag) (mg : Str → Option Value) (base : Heap) (N : List Str) (F : CloF) (f c' : Addr) (A : Around) (outer : List Env) (s : Shared) (H : Hp) (E : XK) : Cx where
  prog := P
  w := w
  K := K
  mg := mg
  base := base
  A := A.deeper (envL F s.heap.objs.size f c')
  N := N
  s_0 := s
  H_0 := H
  env := envL F s.heap.objs.size f c'
  outer := outer
  stack := envL F s.heap.objs.size f c' :: outer
  ex := []
  fn := fun _ => false
  calm := true
  pn := []
  xe := fun e s' => wpAny (model P w) (A.deeper (envL F s.heap.objs.size f c')) (leaving (envL F s.heap.objs.size f c') e) (fun _ s2 => L2.CX P w outer H s E e s2) (fun e2 s2 => L2.CX P w outer H s E e2 s2) s'
section
variable {P : Program} {w : World} {K : PySem.W.Frag} {mg : Str → Option Value} {base : Heap} {S : List (Addr × Obj)} {outer : List Env} {H : Hp} {s : Shared} {A : Around} {N : List Str} {F : CloF} {f c' : Addr} {E : XK} {σ : L2.St} {k : Nat}
theorem known_of (e0 : Env0 P w K mg base A outer s H) (hS : ∀ b o, S.lookup b = some o → H b = some (pinO o b)) : KnownS S s.heap base (frs outer) := by
  refine ⟨fun b o e => pinO_get e0.hok (hS b o e), fun b o e z => ?_, fun b o e => ?_⟩
  · have := e0.frf b z
    rw [hS b o e] at this
    cases this
  · cases q : base.get? b with
    | none => rfl
    | some v =>
      have := (e0.bs b v q).2
      rw [hS b o e] at this
      cases this
/-- the cells that the lambda reads hold the slots' values -/
structure CellsS (S : List (Addr × Obj)) (F : CloF) (N : List Str) (σ : L2.St) : Prop where
  all : ∀ x c, F.cl.lookup x = some c → ∃ o v, S.lookup c = some o ∧ o.data = .cell v
  val : ∀ (i : Nat) x v, N[i]? = some x → σ[i]? = some (some v) → F.scope.names.lookup x = some .free → ∃ c o u, F.cl.lookup x = some c ∧ S.lookup c = some o ∧ o.data = .cell (some u) ∧ RelV v u
theorem lam_begin {h1 : Heap} {tk : Nat} {bs : List (Str × Value)} (G : LamG F N) (e0 : Env0 P w K mg base A outer s H) (hd : A.handled = none) (hS : ∀ b o, S.lookup b = some o → s.heap.get? b = some o ∧ H b = none) (C : CellsS S F N σ) (hl : σ.length = N.length)
    (hns : h1.Ns s.heap.objs.size fun y => bs.reverse.lookup y) (kp : ∀ b o, s.heap.get? b = some o → h1.get? b = some o) :
    Inv (cxL P w K mg base N F f c' A outer s H E) [] σ H { s with heap := h1, toks := tk } := by
  have look : ∀ {y}, F.scope.names.lookup y = some .free → ∃ c, F.cl.lookup y = some c := fun {y} e => G.free _ (PySem.mem_of_lookup e) rfl
  have cell : ∀ {x c}, F.cl.lookup x = some c → ∃ v, h1.IsCell c v ∧ H c = none ∧ c < s.heap.objs.size := by
    intro x c e
    obtain ⟨o, v, e1, e2⟩ := C.all x c e
    obtain ⟨e3, e4⟩ := hS c o e1
    exact ⟨v, ⟨o, kp c o e3, e2⟩, e4, Heap.lt_size e3⟩
  have noA : ∀ b : Addr, b ∉ (cxL P w K mg base N F f c' A outer s H E).ex := fun b z => absurd (show b ∈ ([] : List Addr) from z) (by simp)
  refine ⟨⟨e0.mod, G.kind, rfl, rfl, Nat.le_refl _, G.inj, fun y hy => ?_, fun y c z _ => ?_, fun _ => hd, Around.frames_deeper e0.frames, .inr ⟨rfl, rfl⟩, fun b z => absurd z (noA b), e0.bs, e0.bsz, fun b _ _ => noA b,
      fun b z => absurd z (noA b), e0.funs, e0.frf⟩,
    rfl, e0.bare, Un.kept kp, ⟨_, hns, fun i y v e1 e2 e3 => ?_⟩, fun y c e => ?_, e0.hok.fresh (Nat.le_refl _), fun y c e => ?_, fun q hq => absurd (show q ∈ ([] : List (Addr × Obj)) ++ [] from hq) (by simp), e0.hok.kept kp, hl⟩
  · have hy : F.scope.names.lookup y = some .cell ∨ F.scope.names.lookup y = some .free := hy
    rcases hy with hy | hy
    · exact absurd rfl (G.noc _ (PySem.mem_of_lookup hy))
    · exact look hy
  · have z : false = true := z
    cases z
  · have e3 : Vis F.scope y := e3
    rcases e3 with e3 | e3 | e3
    · exact absurd (List.mem_of_getElem? e1) (G.loc _ (PySem.mem_of_lookup e3) rfl)
    · exact absurd rfl (G.noc _ (PySem.mem_of_lookup e3))
    · obtain ⟨c, o, u, h1', h2, h3, h4⟩ := C.val i y v e1 e2 e3
      exact ⟨u, h4, .inr ⟨.inr e3, c, h1', o, kp c o (hS c o h2).1, h3⟩⟩
  · obtain ⟨v, z, _⟩ := cell e
    exact ⟨v, z⟩
  · exact (cell e).choose_spec.2.1
theorem binds_of {dV doc pm cd ct : Value} (B : BindF F) (hok : HOk P w H s.heap) (d : DfOk H F.dn dV) :
    ∃ bs, BindsTo s (cloFn F dV doc pm cd ct) ⟨[], []⟩ bs ∧ ((F.dn = none ∧ bs = []) ∨ ∃ n v, F.dn = some n ∧ bs = [(n, v)]) := by
  unfold BindF at B
  unfold DfOk at d
  cases e : F.dn with
  | none =>
    rw [e] at B d
    subst d
    exact ⟨[], .of_eq (B doc pm cd ct), .inl ⟨rfl, rfl⟩⟩
  | some n =>
    rw [e] at B d
    obtain ⟨t, rfl, ht⟩ := d
    obtain ⟨_, its, r, o, ho, hc, hdt⟩ := hok t _ ht
    obtain ⟨k, h1, h2⟩ := B (.ref t) doc pm cd ct
    cases r with
    | cons r1 r2 =>
      cases r2
      rename_i v
      obtain ⟨m, hdt⟩ : ∃ m, o.data = .seq #[v] m := by first | exact ⟨_, hdt⟩ | exact ⟨_, hdt.1⟩ | exact hdt
      exact ⟨_, .of_defaults rfl ho hdt h1 (h2 v), .inr ⟨n, v, rfl, rfl⟩⟩
/-- the call -/
theorem run_clo {tb : TE} {Q : VK} (e0 : Env0 P w K mg base A outer s H) (hr : Room (k + 1) A) (at_ : CloAt H H f F) (G : LamG F N) (B : BindF F) (hS : ∀ b o, S.lookup b = some o → H b = some (pinO o b)) (C : CellsS S F N σ) (hl : σ.length = N.length)
    (hbody : ∀ c', Room k (A.deeper (envL F s.heap.objs.size f c')) → PE (cxL P w K mg base N F f c' A outer s (unpinA S H) E) F.body tb) (ht : tb σ (unpinA S H) Q) {Q' : VK} {E' : XK}
    (hQ : ∀ v H', (∀ b o, S.lookup b = some o → H' b = none) → Q v H' → Q' v (pinA S H')) (hE : ∀ c d H', (∀ b o, S.lookup b = some o → H' b = none) → E c d H' → E' c d (pinA S H')) :
    codeAny (model P w) A (.call (.ref f) ⟨[], []⟩) (CR (L2.CX P w) outer P w H s Q' E') s := by
  have kn := known_of e0 hS
  obtain ⟨dV, doc, pm, c', ctv, hf, hc, hd⟩ := at_
  refine codeAny_mono ?_ fun r s' q => cr_pin (E := E) kn hS hQ hE q
  have e1 := env0_unpin e0 hS
  have of := pinO_get e0.hok hf
  obtain ⟨⟨oc, vs, t, hoc, hdc, hvc⟩, _, _⟩ := e0.hok c' _ hc
  obtain ⟨bs, hb, hbs⟩ := binds_of (doc := doc) (pm := pm) (cd := .ref c') (ct := ctv) B e0.hok hd
  refine PySem.W.kla_callFunE hr.depth of rfl G.co G.gen rfl ⟨c', oc, vs, t, rfl, hoc, hdc, hvc⟩ (hb _ _ _ _ ?_)
  have lim : s.heap.NoLimit := e0.mod.nolimit.keeps (fun b o e => (e0.bs b o e).1)
  refine wpAny_newFunctionEnv G.noc (fun y hy => ?_) (fun h1 hns hsb => ⟨lim.fresh _ hsb, ?_⟩) G.kind
  · rcases hbs with ⟨_, rfl⟩ | ⟨n, v, e, rfl⟩
    · cases hy
    · obtain rfl : y = (n, v) := by simpa using hy
      exact G.dn n e
  · show codeAny _ _ (.expr F.body (envL F s.heap.objs.size f c')) _ _
    have kp : ∀ b o, s.heap.get? b = some o → h1.get? b = some o := fun b o e => hsb.extBut b o (Nat.ne_of_lt (Heap.lt_size e)) (Heap.get?_push_of_some _ e)
    have J : Inv (cxL P w K mg base N F f c' A outer s (unpinA S H) E) [] σ (unpinA S H) { s with heap := h1, toks := s.toks + bs.length } :=
      lam_begin G e1 hr.hd (fun b o e => ⟨kn.get b o e, unpinA_in e⟩) C hl hns kp
    refine PySem.W.kla_codeExpr (wpAny_mono ((hbody c' (hr.deeper _)).run [] _ _ _ Q J ht) ?_ fun e s' hq => hq)
    rintro v s' ⟨v', H', J', rv, q⟩
    exact ⟨v', H', J'.os, J'.bare, J'.base, J'.hok, rv, q⟩
end
end GX

set_option Elab.async false
set_option linter.all false
set_option maxRecDepth 100000
set_option maxHeartbeats 4000000
/-! ### lambdas made: the new closure is known from then on -/
namespace GX
open PySem L2 PySem.Spec PyProof.Rows

section
variable {X : Cx} {pins : List (Addr × Obj)} {σ : L2.St} {H H0 : Hp} {s s0 : Shared} {f : Addr} {o : Obj}
/-- an object that is there and new since s0 is known from now on -/
theorem track (I0 : Inv X pins σ H0 s0) (I : Inv X pins σ H s) (hf : s0.heap.objs.size ≤ f) (of : s.heap.get? f = some o) (n : H f = none) : Inv X pins σ (upd H f (pinO o f)) s := by
  have old : ∀ {b : Addr} {v : Obj}, s0.heap.get? b = some v → b ≠ f := fun {b v} e => Nat.ne_of_lt (Nat.lt_of_lt_of_le (Heap.lt_size e) hf)
  have big : X.s_0.heap.objs.size ≤ f := Nat.le_trans I0.sz hf
  have h0 : ∀ {b : Addr} {v : Obj}, X.s_0.heap.get? b = some v → b ≠ f := fun {b v} e => Nat.ne_of_lt (Nat.lt_of_lt_of_le (Heap.lt_size e) big)
  have nn : ∀ {b : Addr} {u : HO}, H b = some u → b ≠ f := fun {b u} e => ne_of_none e n
  refine ⟨I.ok, I.os, I.bare, ⟨I.base.keep, I.base.slot, fun b v e z hx => ?_, I.base.there, fun b xs e => ?_, fun b v u e => ?_, fun b ps e => ?_⟩, I.loc, I.cell, ?_, fun x c e => ?_, fun p hp => ?_, fun b u e => ?_, I.len⟩
  · rw [upd_ne (h0 e)]
    exact I.base.free b v e z hx
  · have q := I.base.tups b xs e
    rw [upd_ne (nn q)]
    exact q
  · have q := I.base.frzs b v u e
    rw [upd_ne (nn q)]
    exact q
  · obtain ⟨m, q⟩ := I.base.tbls b ps e
    exact ⟨m, by rw [upd_ne (nn q)]; exact q⟩
  · rw [upd_ne (Nat.ne_of_lt (Nat.lt_of_lt_of_le I0.lt hf))]
    exact I.free
  · obtain ⟨v, ob, e1, _⟩ := I0.cell x c e
    rw [upd_ne (old e1)]
    exact I.freeC x c e
  · obtain ⟨e1, e2, r⟩ := I.pin p hp
    exact ⟨e1, by rw [upd_ne (old (I0.pin p hp).1)]; exact e2, r⟩
  · by_cases q : b = f
    · subst q
      rw [upd_same] at e
      cases e
      exact pinO_ok of
    · rw [upd_ne q] at e
      refine (I.hok b u e).stay (fun _ _ _ z => z) (fun c z => ?_) (fun c xs z => ?_)
      · rw [upd_ne (nn z)]; exact z
      · rw [upd_ne (nn z)]; exact z
end

/-- what the making of a lambda leaves -/
structure LamStep (H H1 : Hp) (P f : Addr) (F : CloF) : Prop where
  no : H f = none
  ex : ∃ (dV doc pm : Value) (c' : Addr) (ctv : Value) (ps ps' : Array Value), H1 f = some (pinO (cloObj F dV doc pm c' ctv) f) ∧
    H P = some (.tbl ps) ∧ H1 P = some (.tbl ps') ∧ TriplesOk ps'.toList ∧ (∀ p cv, codeAmong p ps'.toList = some cv → codeAmong p ps.toList = some cv ∨ cv = .ref c') ∧
    ((∃ p, codeAmong p ps.toList = some (.ref c') ∧ H1 c' = H c') ∨ (H c' = none ∧ H1 c' = some (LamX.CodeO c' F.q))) ∧
    (match F.dn with | none => dV = .none | some _ => ∃ t, dV = .ref t ∧ H t = none ∧ H1 t = some (.tup [.int 0]))
  keep : ∀ b o, H b = some o → b ≠ P → H1 b = some o
def tLam (P : Addr) (F : CloF) : TE := fun _ H Q => LamX.TabS H P F.q ∧ ∀ f H1, LamStep H H1 P f F → Q (.ref f) H1
section
variable {X : Cx} {pins : List (Addr × Obj)} {σ : L2.St} {H : Hp} {s : Shared} {c P : Addr} {pos : Pos} {F : CloF} {Q : Value → Shared → Prop} {E : Value → Shared → Prop}
/-- the text of the lambda and its cells are X's -/
structure LamM (X : Cx) (F : CloF) : Prop where
  q : F.q = X.env.qual ++ "<lambda>"
  cl : F.cl = cloFrom X.env.cells F.scope.names []
  fr : ∀ y ∈ F.scope.names, y.2 = .free → ∃ c, X.env.cells.lookup y.1 = some c
theorem lam_tail {dV : Value} {H0 : Hp} {s0 : Shared} (I : Inv X pins σ H s) (TB : LamX.TabB X.base X.mg c P) (hcode : X.env.code = .ref c) (M : LamM X F) (T : LamX.TabS H P F.q)
    (h0 : ∀ b o, H0 b = some o → H b = some o) (h1 : H0 P = H P) (hd : match F.dn with | none => dV = .none | some _ => ∃ t, dV = .ref t ∧ H0 t = none ∧ H t = some (.tup [.int 0]))
    (hn : ∀ b, H b = none → H0 b = none) (hC : ∀ b q, H b = some (LamX.CodeO b q) → H0 b = H b)
    (h : ∀ f H1 s', Inv X pins σ H1 s' → LamStep H0 H1 P f F → Q (.ref f) s') :
    wpAny (model X.prog X.w) X.A (makeTail "<lambda>" (X.env.qual ++ "<lambda>") F.params (.expr F.body) F.scope X.env dV .none none pos pos.line) Q E s := by
  obtain ⟨ps, hP, ht, ha⟩ := T
  have bP : s.heap.BuiltinsAt X.mg P := TB.bm.keeps I.bk
  have hP' : s.heap.get? P = some { cls := .none, data := .fields ps } := I.hok P _ hP
  have hcl : closureFor F.scope X.env = pure F.cl := by rw [M.cl]; exact closure_ok M.fr
  have kp0 : ∀ {H1 : Hp}, (∀ b o, H b = some o → b ≠ P → H1 b = some o) → ∀ b o, H0 b = some o → b ≠ P → H1 b = some o := fun k b o e n => k b o (h0 b o e) n
  cases hc : codeAmong pos ps.toList with
  | none =>
    refine PySem.W.kdv_makeTail (mg := X.mg) (c := c) (P := P) (ps := ps) hcl I.ok.glob (I.mod.glob.keeps I.bk) hcode (TB.code.keeps I.bk) hP' ht hc TB.gP bP fun c' ctv doc h' tk hx hge hlt hrec htb => ?_
    obtain ⟨c2, oc, vs, t, e2, hoc, hdc, hv⟩ := hrec
    cases e2
    have hsz : s.heap.objs.size ≤ h'.objs.size := Nat.le_trans hge (Nat.le_of_lt hlt)
    have nC : H c' = none := I.hok.fresh hge
    have nPc : P ≠ c' := ne_of_none hP nC
    have fF : H h'.objs.size = none := I.hok.fresh hsz
    have nF1 : h'.objs.size ≠ c' := Nat.ne_of_gt hlt
    have nF2 : h'.objs.size ≠ P := Nat.ne_of_gt (Nat.lt_of_lt_of_le (Heap.lt_size hP') hsz)
    have I1 := LamX.inv_table (q := F.q) (t' := tk) (more := #[rawInt pos.line, rawInt pos.col, .ref c']) (h' := h'.push (cloObj F dV doc ((X.mg "__name__").getD .none) c' ctv)) I hP
      (fun b o hb e => Heap.get?_push_of_some _ (hx b o hb e)) (Heap.get?_push_of_some _ htb) hge ⟨oc, vs, t, Heap.get?_push_of_some _ hoc, hdc, by rw [M.q]; exact hv⟩
    have n1 : upd (upd H P (.tbl (ps ++ #[rawInt pos.line, rawInt pos.col, .ref c']))) c' (LamX.CodeO c' F.q) h'.objs.size = none := by
      rw [upd_ne nF1, upd_ne nF2]
      exact fF
    have J := track (o := cloObj F dV doc ((X.mg "__name__").getD .none) c' ctv) I I1 hsz (Heap.get?_push_size _ rfl) n1
    have eL : (ps ++ #[rawInt pos.line, rawInt pos.col, .ref c']).toList = ps.toList ++ [rawInt pos.line, rawInt pos.col, .ref c'] := by simp
    rw [← M.q]
    refine h _ _ _ J ⟨hn _ fF, ⟨dV, doc, _, c', ctv, ps, _, upd_same, h1.trans hP, ?_, by rw [eL]; exact PySem.TriplesOk_snoc _ _ _ _ ht, fun p cv z => ?_, .inr ⟨hn _ nC, ?_⟩, ?_⟩, kp0 fun b o e n => ?_⟩
    · rw [upd_ne nF2.symm, upd_ne nPc, upd_same]
    · rw [eL] at z
      exact LamX.among_app _ ht z
    · rw [upd_ne nF1.symm, upd_same]
    · cases ed : F.dn with
      | none => rw [ed] at hd; exact hd
      | some n =>
        rw [ed] at hd
        obtain ⟨t, e1, e2, e3⟩ := hd
        refine ⟨t, e1, e2, ?_⟩
        rw [upd_ne (ne_of_none e3 fF), upd_ne (ne_of_none e3 nC), upd_ne]
        · exact e3
        · rintro rfl
          rw [hP] at e3
          cases e3
    · rw [upd_ne (ne_of_none e fF), upd_ne (ne_of_none e nC), upd_ne n]
      exact e
  | some cv =>
    obtain ⟨c', e, hco⟩ := ha pos cv hc
    subst e
    refine PySem.W.kdv_makeTailHit (mg := X.mg) (c := c) (P := P) (ps := ps) hcl I.ok.glob (I.mod.glob.keeps I.bk) hcode (TB.code.keeps I.bk) hP' ht hc bP fun ctv doc h' tk hx hsz => ?_
    have I1 : Inv X pins σ H { s with heap := h'.push (cloObj F dV doc ((X.mg "__name__").getD .none) c' ctv), toks := tk } := I.kept fun b o e => Heap.get?_push_of_some _ (hx b o e)
    have fF : H h'.objs.size = none := I.hok.fresh hsz
    have J := track (o := cloObj F dV doc ((X.mg "__name__").getD .none) c' ctv) I I1 hsz (Heap.get?_push_size _ rfl) fF
    have kb : ∀ b o, H b = some o → upd H h'.objs.size (pinO (cloObj F dV doc ((X.mg "__name__").getD .none) c' ctv) h'.objs.size) b = some o := fun b o e => by
      rw [upd_ne (ne_of_none e fF)]
      exact e
    rw [← M.q]
    refine h _ _ _ J ⟨hn _ fF, ⟨dV, doc, _, c', ctv, ps, ps, upd_same, h1.trans hP, kb _ _ hP, ht, fun p cv z => .inl z, .inl ⟨pos, hc, ?_⟩, ?_⟩, kp0 fun b o e _ => kb b o e⟩
    · rw [kb _ _ hco, hC c' _ hco]
      exact hco.symm
    · cases ed : F.dn with
      | none => rw [ed] at hd; exact hd
      | some n =>
        rw [ed] at hd
        obtain ⟨t, e1, e2, e3⟩ := hd
        exact ⟨t, e1, e2, kb _ _ e3⟩
theorem tabS_q {H : Hp} {q q' : Str} (e : q = q') (T : LamX.TabS H P q) : LamX.TabS H P q' := e ▸ T
theorem codeO_tup {a : Addr} {q : Str} {xs : List V} : LamX.CodeO a q ≠ .tup xs := fun z => by
  unfold LamX.CodeO at z
  cases z
/-- lambda: body -/
theorem pe_lam0 (TB : LamX.TabB X.base X.mg c P) (hcode : X.env.code = .ref c) (M : LamM X F) (hdn : F.dn = none) (hdef : defaultsOf F.params X.env = ([], [])) : PE X (.Lambda F.params F.body F.scope pos) (tLam P F) := by
  refine ⟨fun pins s σ H Q I h => ?_⟩
  obtain ⟨T, h⟩ := h
  refine PySem.W.kla_eval hdef ?_
  rw [makeFunction_eq]
  simp only [List.zip_nil_right, List.filterMap_nil, List.isEmpty_nil, if_true, pure_bind]
  exact lam_tail (H0 := H) (s0 := s) (dV := .none) I TB hcode M T (fun _ _ e => e) rfl (by rw [hdn]) (fun _ e => e) (fun _ _ _ => rfl) fun f H1 s' J st => ⟨.ref f, H1, J, rfl, h f H1 st⟩
/-- lambda x=0: body -/
theorem pe_lam1 {n : Str} {j : Nat} {dp : Pos} (TB : LamX.TabB X.base X.mg c P) (hcode : X.env.code = .ref c) (M : LamM X F) (hdn : F.dn = some n) (hdef : F.params.defaults = [.Constant (.int 0) j dp]) (hk : F.params.kw_defaults = []) : PE X (.Lambda F.params F.body F.scope pos) (tLam P F) := by
  refine ⟨fun pins s σ H Q I h => ?_⟩
  obtain ⟨T, h⟩ := h
  refine PySem.W.kdv_lam (by rw [hdef]; rfl) hk ?_
  rw [hdef]
  refine PySem.W.kdv_all1 (thn ((pe_int (X := X) (i := 0) (j := j) (pos := dp)).run pins s σ H (fun v H1 => v = .int 0 ∧ H1 = H) I ⟨rfl, rfl⟩) ?_)
  rintro v s1 ⟨_, H1, I1, rv, rfl, e1⟩
  rw [e1] at I1
  refine PySem.W.kdv_all0 ?_
  rw [makeFunction_eq]
  simp only [List.zip_nil_right, List.filterMap_nil, List.isEmpty_nil, List.isEmpty_cons, if_true, Bool.false_eq_true, if_false, pure_bind]
  refine wpAny_bind (wpAny_newTextTuple ?_)
  have nT : H s1.heap.objs.size = none := I1.hok.fresh (Nat.le_refl _)
  have one : (1 : Nat) ≤ sizeLine := by rw [sizeLine_eq]; omega
  have I2 : Inv X pins σ (upd H s1.heap.objs.size (.tup [.int 0])) { s1 with heap := s1.heap.push { cls := .type "tuple", data := .seq #[v] } } :=
    I1.laid (t' := s1.toks) (fun b o e => Heap.get?_push_of_some _ e) (Nat.le_refl _) ⟨one, [v], .cons rv .nil, _, Heap.get?_push_size _ rfl, rfl, _, rfl⟩
  have kb : ∀ b o, H b = some o → upd H s1.heap.objs.size (.tup [.int 0]) b = some o := fun b o e => by
    rw [upd_ne (ne_of_none e nT)]
    exact e
  have nP : P ≠ s1.heap.objs.size := by
    obtain ⟨ps, hP, _⟩ := T
    exact ne_of_none hP nT
  refine lam_tail (H0 := H) (s0 := s) (dV := .ref s1.heap.objs.size) I2 TB hcode M (T.ext kb) kb (by rw [upd_ne nP]) (by rw [hdn]; exact ⟨_, rfl, nT, upd_same⟩) (fun b e => ?_) (fun b q e => ?_) fun f H1 s' J st => ⟨.ref f, H1, J, rfl, h f H1 st⟩
  · cases z : H b with
    | none => rfl
    | some o => rw [kb b o z] at e; cases e
  · by_cases z : b = s1.heap.objs.size
    · subst z
      rw [upd_same] at e
      exact absurd (Option.some.inj e).symm codeO_tup
    · rw [upd_ne z]
end
end GX

set_option Elab.async false
set_option linter.all false
set_option maxRecDepth 100000
set_option maxHeartbeats 4000000
/-! ### try: .. except (A, B) as e: .. -/
namespace GX
open PySem L2 PySem.Spec PyProof.Rows

theorem flying_push {B h : Heap} {l : List Env} {a : Addr} {Z : Obj → Prop} (x : HandSPX.FlyingZ B l a Z h) (o : Obj) : HandSPX.FlyingZ B l a Z (h.push o) := by
  obtain ⟨k1, k2, k3, oe, vs, T, oT, ts, he, hz, hd, h1, hn, hne, hT, hdT, h3⟩ := x
  have up : ∀ b v, h.get? b = some v → (h.push o).get? b = some v := fun b v e => Heap.get?_push_of_some _ e
  exact ⟨fun b v e => up b v (k1 b v e), k2, Heap.FunFrames.of_keeps (fun b v e _ => ⟨v, up b v e, rfl⟩) k3,
    oe, vs, T, oT, ts, up _ _ he, hz, hd, h1, hn, hne, up _ _ hT, hdT, h3⟩
/-- what 'except (A, B) as n' wishes of an exception of the body -/
def wAs2 (K : PySem.W.Frag) (c1 c2 : Value) (i : Nat) (ts : Addr → Value → Option Addr → TS) (Wout : WX) (D : Ends) : WX := fun cls d σ H =>
  ∃ b, PySem.W.exmAny K cls [c1, c2] = some b ∧
    (b = true → ∀ a, H a = none → ts a cls d ⟨fun σ' H' => D.nx (σ'.set i none) H', D.rt, fun σ' H' => D.bk (σ'.set i none) H', fun σ' H' => D.ct (σ'.set i none) H'⟩ (σ.set i (some (.ref a))) H) ∧
    (b = false → Wout cls d σ H)
section
variable {X : Cx} {x1 x2 n : Str} {c1 c2 : Value} {i : Nat} {body suite : List Stmt} {b0 : Stmt} {q1 q2 q3 pos hpos : Pos} {ctx : _} {tb : WX → TS} {ts : Addr → Value → Option Addr → TS} {Wout : WX}
theorem ps_try2 (hs : X.stack = X.env :: X.outer) (hf : X.env.frame = some X.env.locals) (hN : X.N.Nodup) (hi : X.N[i]? = some n) (hln : X.env.kindOf n = some .local)
    (g1 : Gl X x1) (m1 : X.mg x1 = some c1) (g2 : Gl X x2) (m2 : X.mg x2 = some c2) (tk : Takes X Wout)
    (hb : ∀ (W : WX) (pn : List (Addr × Obj)) (xe : Value → Shared → Prop), Takes (X.tr pn xe) W → PassesOwn (model X.prog X.w) X.A X.env xe → PSs (X.tr pn xe) body (tb W))
    (hsu : ∀ (a : Addr) (oe : Obj) (cls : Value) (d : Option Addr) (pn : List (Addr × Obj)), Zc cls d oe → (∃ vs, oe.data = .fields vs) → X.base.get? a = none → PSs (X.suite a ((a, oe) :: pn)) (b0 :: suite) (ts a cls d))
    (d1 : (x1 == ("__debug__" : Str)) = false := by decide) (d2 : (x2 == ("__debug__" : Str)) = false := by decide)
    (hst : ∀ p, backTo p (starEach [.Name x1 q1, .Name x2 q2] X.env) = [(false, eval (.Name x1 q1) X.env), (false, eval (.Name x2 q2) X.env)] := by intro _; rfl) :
    PS X (.Try body [.ExceptHandler (some (.Tuple [.Name x1 q1, .Name x2 q2] ctx q3)) (some n) (b0 :: suite) hpos] [] [] pos) (fun D σ H => tb (wAs2 X.K c1 c2 i ts Wout D) D σ H) := by
  refine ⟨fun pins s σ H D I h => ?_⟩
  have ok := I.ok
  have hfr : X.A.frames = some (X.env :: X.outer) := by rw [ok.frames, hs]
  refine wpAny_Try_except ?_
  let HD : List ExceptHandler := [.ExceptHandler (some (.Tuple [.Name x1 q1, .Name x2 q2] ctx q3)) (some n) (b0 :: suite) hpos]
  let XE0 : Value → Shared → Prop := fun e s1 => wpAny (model X.prog X.w) X.A (noteFrame e X.env)
    (fun _ s2 => wpAny (model X.prog X.w) X.A (setFlight e none)
      (fun _ s3 => wpAny (model X.prog X.w) X.A (handleBy e X.env HD) (SP X pins D) X.xe s3) X.xe s2) X.xe s1
  have tkB : Takes (X.tr (X.pn ++ pins) XE0) (wAs2 X.K c1 c2 i ts Wout D) := by
    rintro u s' ⟨a, B, sI, pins', σ', H', cls, d, rfl, J', nb, up, sky, na, os, ag, b, hb1, hyes, hno⟩
    have J : Inv X pins σ' H' sI := J'.ofTry ok
    have sky' : Sky B (X.env :: X.outer) a (Zc cls d) X.env.locals s'.heap := by
      rw [← hs]
      exact sky
    show wpAny (model X.prog X.w) X.A (noteFrame (.ref a) X.env) _ _ _
    refine Sky.land Zc.steady hfr hf sky' fun h3 fl3 up3 => ?_
    have J3 := Inv.landed (s' := { s' with heap := h3 }) J nb fl3.1 (up.trans up3) os ag
    obtain ⟨oe3, vs3, he3, hz3, hd3⟩ := fl3.there
    have nfr : a ∉ frs (X.env :: X.outer) := by
      intro hm
      obtain ⟨_, o', e', hnf⟩ := fl3.2.2.1.mem hm
      rw [he3] at e'
      cases e'
      exact hnf _ hd3
    have nL : a ≠ X.env.locals := fun z => nfr (List.mem_filterMap.mpr ⟨X.env, List.mem_cons_self, by rw [hf, z]⟩)
    have nF : a ∉ X.fs := by
      intro hm
      obtain ⟨e, he, q⟩ := List.mem_filterMap.mp hm
      exact nfr (List.mem_filterMap.mpr ⟨e, List.mem_cons_of_mem _ he, q⟩)
    have S3 := J3.suite he3 hd3 na nL nF
    have nB : X.base.get? a = none := by
      cases q : X.base.get? a with
      | none => rfl
      | some o =>
        obtain ⟨q1, _⟩ := J.bs a o q
        have := nb a o q1 (by rw [hs]; exact nfr)
        rw [fl3.2.1] at this
        cases this
    refine wpAny_handleBy_cons (codeAny_handlers_test ?_) (by intro q; cases q)
    refine wpAny_Tuple_spliced ?_
    rw [hst]
    refine Calls.spliced_cons (ld_glob (X := X.suite a ((a, oe3) :: (X.pn ++ pins))) S3 g1 m1 ?_ d1)
    refine Calls.spliced_cons (ld_glob (X := X.suite a ((a, oe3) :: (X.pn ++ pins))) S3 g2 m2 ?_ d2)
    refine Calls.spliced_nil ⟨by show 2 ≤ sizeLine; rw [sizeLine_eq]; omega, ?_⟩
    have fl4 := flying_push fl3 { cls := .type "tuple", data := .seq [c1, c2].toArray }
    have up4 : sI.heap.UpToSlots (h3.push { cls := .type "tuple", data := .seq [c1, c2].toArray }) :=
      (up.trans up3).trans (Heap.UpToSlots.of_keeps fun b o e => Heap.get?_push_of_some _ e)
    have hp4 : (h3.push { cls := .type "tuple", data := .seq [c1, c2].toArray }).get? h3.objs.size = some { cls := .type "tuple", data := .seq [c1, c2].toArray } := Heap.get?_push_size _ rfl
    generalize h3.push { cls := .type "tuple", data := .seq [c1, c2].toArray } = h4 at fl4 up4 hp4
    have J4 := Inv.landed (s' := { s' with heap := h4 }) J nb fl4.1 up4 os ag
    obtain ⟨oe4, vs4, he4, hz4, hd4⟩ := fl4.there
    have LT : PySem.W.Looks (model X.prog X.w) h4 (typeOf (.ref a)) cls := fun A Q E s k q => wpAny_typeOf_ref (k _ _ he4) (by rw [hz4.1]; exact q)
    have LM := PySem.W.exm_tup2 (M := model X.prog X.w) J4.kIn LT hp4 hb1
    refine LM.here ?_
    cases b with
    | true =>
      refine codeAny_handlers_suite_as ?_
      refine HandSPX.lands_againZ fl4 fun h5 fl5 up5 => ?_
      have J5 := Inv.landed (s' := { s' with heap := h5 }) J nb fl5.1 (up4.trans up5) os ag
      obtain ⟨oe5, vs5, he5, hz5, hd5⟩ := fl5.there
      have S5 := J5.suite he5 hd5 na nL nF
      refine store_ok (X := X.suite a ((a, oe5) :: (X.pn ++ pins))) (v := .ref a) S5 hN hi (.inl hln) rfl (fun s6 S6 => ?_) (.inr hln)
      refine wpAny_mono ((hsu a oe5 cls d (X.pn ++ pins) hz5 ⟨_, hd5⟩ nB).run [] s6 _ H' _ S6 (hyes rfl a na)) ?_ (fun _ _ z => False.elim z)
      intro f s7 hsp
      have end_ : ∀ {σ7 : L2.St} {H7 : Hp} {Q : Shared → Prop}, Inv (X.suite a ((a, oe5) :: (X.pn ++ pins))) [] σ7 H7 s7 → (∀ s8, Inv X pins (σ7.set i none) H7 s8 → Q s8) →
          wpAny (model X.prog X.w) X.A (do bindName X.env n .none; unbindBehindTheSuite X.env n hpos) (fun _ s8 => Q s8) X.xe s7 :=
        fun S7 hq => gone_ok (S7.unsuite ok) hN hi hln hq
      match f, hsp with
      | .next, ⟨σ7, H7, S7, q7⟩ => exact end_ S7 fun s8 J8 => ⟨_, _, J8, q7⟩
      | .brk, ⟨σ7, H7, S7, q7⟩ => exact end_ S7 fun s8 J8 => ⟨_, _, J8, q7⟩
      | .cont, ⟨σ7, H7, S7, q7⟩ => exact end_ S7 fun s8 J8 => ⟨_, _, J8, q7⟩
      | .ret u, ⟨v7, σ7, H7, S7, r7, q7⟩ => exact end_ S7 fun s8 J8 => ⟨_, _, _, J8, r7, q7⟩
    | false =>
      show wpAny _ X.A (handleBy (.ref a) X.env []) _ _ _
      refine wpAny_handleBy_nil ?_
      obtain ⟨k1, k2, k3, oe, vs, T, oT, ts', he, hz, hd, h1, hr⟩ := id fl4
      unfold PySem.passOn
      refine wpAny_bind (wpAny_field he hd h1 ?_)
      rw [if_neg (show ¬ ((Value.ref T == Value.none) = true) from by simp)]
      have fin : wpAny (model X.prog X.w) X.A (setFlight (.ref a) X.env.frame) (fun _ s5 => wpAny (model X.prog X.w) X.A (throw (.ref a) : Sem Flow) (SP X pins D) X.xe s5) X.xe { s' with heap := h4 } := by
        rw [hf]
        refine HandSPX.setFlight_upZ fl4 fun h5 hh5 up5 => wpAny_throw (tk _ _ ?_)
        exact ⟨a, B, sI, pins, σ', H', cls, d, rfl, J, nb, up4.trans up5, .inr (.inr (by rw [hs]; exact hh5)), na, os, ag, hno rfl⟩
      first
        | exact wpAny_bind (wpAny_pure (wpAny_bind fin))
        | exact wpAny_bind fin
  refine wpAny_mono ((hb (wAs2 X.K c1 c2 i ts Wout D) (X.pn ++ pins) XE0 tkB PassesOwn.looking).run [] s σ H D (I.toTry _) h) ?_ (fun e s1 he => he)
  intro f s1 hsp
  match f, hsp with
  | .next, ⟨σ', H', J', q⟩ => exact wpAny_execs_nil ⟨σ', H', J'.ofTry ok, q⟩
  | .brk, ⟨σ', H', J', q⟩ => exact ⟨σ', H', J'.ofTry ok, q⟩
  | .cont, ⟨σ', H', J', q⟩ => exact ⟨σ', H', J'.ofTry ok, q⟩
  | .ret u, ⟨v, σ', H', J', r, q⟩ => exact ⟨v, σ', H', J'.ofTry ok, r, q⟩
end
end GX

set_option Elab.async false
set_option linter.all false
set_option maxRecDepth 100000
set_option maxHeartbeats 4000000
/-! ### within an except suite: the exception's fields, defs called with it -/
namespace GX
open PySem L2 PySem.Spec PyProof.Rows

/-- a def that may be called while an exception is handled -/
structure FnN (P : Program) (w : World) (K : PySem.W.Frag) (mg : Str → Option Value) (base : Heap) (CX : CXT) (k : Nat) (f : Addr) (fd : FuncData) (ps : List Str) (sp : Sp) : Prop where
  len : ∀ vs H Q E, sp vs H Q E → vs.length = ps.length
  run : ∀ (A : Around) (outer : List Env) (s : Shared) (H : Hp) (args : Args) (us : List Value) (vs : List V) (Q : VK) (E : XK), A.guards = some [] → L2H.RoomH k A →
    Env0 P w K mg base A outer s H → BindsTo s fd args (ps.zip us) → Vals vs us → sp vs H Q E → codeAny (model P w) A (.call (.ref f) args) (CR CX outer P w H s Q E) s
def cxN (CX : CXT) (P : Program) (w : World) (K : PySem.W.Frag) (mg : Str → Option Value) (base : Heap) (N : List Str) (qual : Str) (scope : Scope) (f : Addr) (cd : Value) (A : Around) (outer : List Env) (s : Shared) (H : Hp) (E : XK) : Cx :=
  { cxOf CX P w K mg base N qual scope f cd A outer s H E with calm := false }
section
variable {P : Program} {w : World} {K : PySem.W.Frag} {mg : Str → Option Value} {base : Heap}
theorem inv_startN {CX : CXT} {N ps : List Str} {qual : Str} {scope : Scope} {f : Addr} {cd : Value} {A : Around} {outer : List Env} {s s1 : Shared} {H : Hp} {E : XK} {us : List Value} {vs : List V}
    (S : FnScope N ps scope) (e0 : Env0 P w K mg base A outer s H) (hl : vs.length = ps.length) (r : Vals vs us)
    (x : InCallC s s.heap.objs.size (bindL (envOfC qual scope s.heap.objs.size f cd).kindOf (ps.zip us) fun _ => none) (cellsFrom (s.heap.objs.size + 1) scope.names []) (bindC (envOfC qual scope s.heap.objs.size f cd).kindOf (ps.zip us) fun _ => none) s1) :
    Inv (cxN CX P w K mg base N qual scope f cd A outer s H E) [] (L2.start N vs) H s1 := by
  have e1 : Env0 P w K mg base { A with handled := none } outer s H := ⟨e0.frames, e0.mod, e0.bs, e0.bsz, e0.funs, e0.frf, e0.hok, e0.bare⟩
  have I : Inv (cxOf CX P w K mg base N qual scope f cd { A with handled := none } outer s H E) [] (L2.start N vs) H s1 := inv_start S rfl e1 hl r x
  exact ⟨⟨I.ok.mod, I.ok.kind, I.ok.glob, I.ok.blt, I.ok.above, I.ok.inj, I.ok.has, I.ok.cab, fun z => Bool.noConfusion (show false = true from z), Around.frames_deeper e0.frames, I.ok.stk, I.ok.exf, I.ok.bs, I.ok.bsz, I.ok.noex, I.ok.exfs, I.ok.funs, I.ok.frf⟩,
    I.os, I.bare, I.base, I.loc, I.cell, I.free, I.freeC, I.pin, I.hok, I.len⟩
theorem okN {x qual : Str} {st : Stmt} {f : Addr} {fd : FuncData} {N ps : List Str} {k : Nat} {sp : Sp} (F : Fun K x qual st f fd) (S : FnScope N ps (defScope st)) (len : ∀ vs H Q E, sp vs H Q E → vs.length = ps.length)
    (hbody : ∀ (cdv : Value) (A : Around) (outer : List Env) (s : Shared) (H : Hp) (vs : List V) (Q : VK) (E : XK), A.guards = some [] → L2H.RoomH k (A.deeper (envOfC qual (defScope st) s.heap.objs.size f cdv)) → sp vs H Q E →
      ∃ t, PSs (cxN CX0 P w K mg base N qual (defScope st) f cdv A outer s H E).nox (defBody st) t ∧ t { nx := fun _ H' => Q .non H', rt := Q } (start N vs) H) : FnN P w K mg base CX0 (k + 1) f fd ps sp := by
  obtain ⟨oc, od, kV, doc, pm, an, cdv, ct, osl, rfl, lk, hcd⟩ := F.ex
  refine ⟨len, fun A outer s H args us vs Q E hg hr e0 hb r hsp => ?_⟩
  have hl := len vs H Q E hsp
  have KX : K.In s.heap := e0.mod.kin.keeps (fun b o e => (e0.bs b o e).1)
  have lim := e0.mod.nolimit.keeps (fun b o e => (e0.bs b o e).1)
  have hkind : ∀ y ∈ ps.zip us, (defScope st).names.lookup y.1 = some .local ∨ ((defScope st).names.lookup y.1 = some .cell ∧ ((cellsFrom (s.heap.objs.size + 1) (defScope st).names []).lookup y.1).isSome = true) := by
    rintro ⟨n, v⟩ hy
    exact (S.par n (List.of_mem_zip hy).1).imp id fun q => ⟨q, PySem.W.cellsFrom_some _ _ _ (Or.inl q)⟩
  refine codeAny_call_function hr.depth (KX _ _ lk) rfl S.co S.gen rfl (PySem.W.codeRec_of KX hcd) (hb _ _ _ _ ?_)
  refine wpAny_newFunctionEnv_cells S.kind hkind ?_
  intro env he s1 x
  subst he
  refine ⟨lim.keeps x.toInCall.keep, codeAny_func ?_⟩
  obtain ⟨t, ht, hq⟩ := hbody cdv A outer s H vs Q E hg (hr.deeper _) hsp
  have I : Inv (cxN CX0 P w K mg base N qual (defScope st) f cdv A outer s H E) [] (start N vs) H s1 := inv_startN S e0 hl r x
  refine wpAny_mono (ht.nox.run [] s1 (start N vs) H _ I hq) ?_ (fun e s' hs => hs)
  intro fl s' hs
  match fl, hs with
  | .ret u, ⟨v, σ', H', J, rv, q⟩ => exact ⟨v, H', J.os, J.bare, J.base, J.hok, rv, q⟩
  | .next, ⟨σ', H', J, q⟩ => exact ⟨.non, H', J.os, J.bare, J.base, J.hok, rfl, q⟩
  | .brk, ⟨_, _, _, q⟩ => exact False.elim q
  | .cont, ⟨_, _, _, q⟩ => exact False.elim q
end
/-- e.f, e the exception that is handled -/
def tXg (K : PySem.W.Frag) (a : Addr) (cls : Value) (d : Option Addr) (f : Str) (te : TE) : TE := fun σ H Q => te σ H fun x H1 => x = .ref a ∧ ∃ C, cls = .ref C ∧ XfC K C ∧ PySem.W.findIn K (.ref C) f = some none ∧
  ∃ (dd : Addr) (fs : List (Str × V)) (v : V), d = some dd ∧ H1 dd = some (.xd fs) ∧ fs.lookup f = some v ∧ Q v H1
/-- e.f, e a known exception -/
def tXp (K : PySem.W.Frag) (f : Str) (te : TE) : TE := fun σ H Q => te σ H fun x H1 => ∃ (a C dd : Addr) (oe : Obj) (fs : List (Str × V)) (v : V), x = .ref a ∧ H1 a = some (pinO oe a) ∧ Zc (.ref C) (some dd) oe ∧ (∃ vs, oe.data = .fields vs) ∧
  XfC K C ∧ PySem.W.findIn K (.ref C) f = some none ∧ H1 dd = some (.xd fs) ∧ fs.lookup f = some v ∧ Q v H1
/-- a def called from the suite, the exception known to it -/
def tCallN (sp : Sp) (a : Addr) (cls : Value) (d : Option Addr) (t : TA) : TE := fun σ H Q => t σ H fun vs H1 => ∀ oe : Obj, Zc cls d oe → (∃ us, oe.data = .fields us) → H1 a = none →
  sp vs (pinA [(a, oe)] H1) (fun v H' => Q v (unpinA [(a, oe)] H')) (fun _ _ _ => False)
/-- a call of a known closure -/
def RunsV (P : Program) (w : World) (K : PySem.W.Frag) (mg : Str → Option Value) (base : Heap) (k : Nat) (f : Addr) (H : Hp) (Q : VK) (E : XK) : Prop :=
  (∃ (F : CloF) (dV doc pm : Value) (c' : Addr) (ctv : Value), H f = some (pinO (cloObj F dV doc pm c' ctv) f)) ∧
    ∀ (A : Around) (outer : List Env) (s : Shared), A.guards = some [] → Room k A → Env0 P w K mg base A outer s H → codeAny (model P w) A (.call (.ref f) ⟨[], []⟩) (CR (L2.CX P w) outer P w H s Q E) s
def tAsk (P : Program) (w : World) (K : PySem.W.Frag) (mg : Str → Option Value) (base : Heap) (k i : Nat) (W : WX) : TE := fun σ H Q => ∃ f, σ[i]? = some (some (.ref f)) ∧ RunsV P w K mg base k f H Q (WE W σ)
section
variable {X : Cx} {a : Addr} {oe : Obj} {cls : Value} {d : Option Addr} {pn : List (Addr × Obj)} {e : Expr} {es : List Expr} {te : TE} {t : TA} {p p1 p2 pos : Pos} {n x : Str} {k i : Nat} {f : Addr} {fd : FuncData} {ps : List Str} {sp : Sp}
theorem get_at {pins : List (Addr × Obj)} {σ : L2.St} {H : Hp} {s : Shared} {Q : VK} {C dd : Addr} {fs : List (Str × V)} {v : V} {ex : Bool} (I : Inv X pins σ H s) (ha : s.heap.get? a = some oe) (hz : Zc (.ref C) (some dd) oe) (hf : ∃ vs, oe.data = .fields vs) (T : XfC X.K C)
    (hno : PySem.W.findIn X.K (.ref C) n = some none) (ed : H dd = some (.xd fs)) (l : fs.lookup n = some v) (q : Q v H) : wpAny (model X.prog X.w) X.A (getAttr (.ref a) n ex) (EP X pins σ Q) X.xe s := by
  obtain ⟨vs, hd⟩ := hf
  have hx : ObjOk X.prog X.w H s.heap dd (.xd fs) := I.hok dd _ ed
  obtain ⟨mA, hns, hr⟩ := hx
  obtain ⟨od, ho, hl⟩ := lookIn_ns hns
  obtain ⟨u, hu, ru⟩ := RelO.some_of (v := v) (o := mA n) (by rw [← l]; exact hr n)
  refine HandSPX.exc_get (ox := oe) (od := some od) (C := C) I.kIn ⟨ha, hz.1, ?_, ?_⟩ T.ga T.gg T.exC (PySem.W.findObj_own T.hdC hno rfl (by rw [hl, hu])) (handed_of ru) ⟨v, H, I.tok _, ru, q⟩
  · unfold PySem.W.notCls
    rw [hd]
  · rw [hz.2]
    exact ho
theorem pe_xg (hp : (a, oe) ∈ X.pn) (hz : Zc cls d oe) (hf : ∃ vs, oe.data = .fields vs) (he : PE X e te) (hb : attributeBase e n X.env (eval e X.env) = eval e X.env := by rfl) : PE X (.Attribute e n pos) (tXg X.K a cls d n te) := by
  refine ⟨fun pins s σ H Q I h => attr_of hb (thn (he.run pins s σ H _ I h) ?_)⟩
  rintro u s1 ⟨y, H1, I1, ry, rfl, C, rfl, T, hno, dd, fs, v, rfl, ea, l, q⟩
  obtain rfl : u = Value.ref a := ry
  exact get_at I1 (I1.pin (a, oe) (List.mem_append_left _ hp)).1 hz hf T hno ea l q
theorem pe_xp (he : PE X e te) (hb : attributeBase e n X.env (eval e X.env) = eval e X.env := by rfl) : PE X (.Attribute e n pos) (tXp X.K n te) := by
  refine ⟨fun pins s σ H Q I h => attr_of hb (thn (he.run pins s σ H _ I h) ?_)⟩
  rintro u s1 ⟨y, H1, I1, ry, a, C, dd, oe, fs, v, rfl, ea, hz, hf, T, hno, ed, l, q⟩
  obtain rfl : u = Value.ref a := ry
  exact get_at I1 (pinO_get I1.hok ea) hz hf T hno ed l q
theorem pe_callN (F : FnN X.prog X.w X.K X.mg X.base CX0 k f fd ps sp) (hG : X.A.guards = some []) (hr : L2H.RoomH k X.A) (hp : (a, oe) ∈ X.pn) (hz : Zc cls d oe) (hf : ∃ vs, oe.data = .fields vs) (nb : X.base.get? a = none)
    (hg : Gl X x) (hm : X.mg x = some (.ref f)) (hk : PySem.W.keepIn X.K (.ref f) = true) (hb : Binds X.K fd ps []) (ha : PA X (e :: es) t) (hdb : (x == ("__debug__" : Str)) = false := by decide)
    (he : starEach (e :: es) X.env = (false, eval e X.env) :: starEach es X.env := by rfl) (hpl : (backTo pos (starEach es X.env)).any (·.1) = false := by rfl) :
    PE X (.Call (.Name x p) (e :: es) [] pos) (tCallN sp a cls d t) := by
  refine ⟨fun pins s σ H Q I h => ?_⟩
  refine wpAny_Call_Name_kw (ld_glob I hg hm ?_ hdb)
  refine PySem.W.callWith_K (h₀ := X.base) I.ok.mod.kin hk ?_ he hpl
  refine thn (ha.run pos pins s σ H _ I h) ?_
  rintro us s1 ⟨vs, H1, I1, r, q⟩
  refine ⟨I1.kIn, ?_⟩
  obtain ⟨g1, g2, g3, g4, g5⟩ := I1.pin (a, oe) (List.mem_append_left _ hp)
  have q := q oe hz hf g2
  have one : ∀ b o, List.lookup b [(a, oe)] = some o → b = a ∧ o = oe := by
    intro b o z
    rw [List.lookup_cons] at z
    cases y : b == a with
    | true => rw [y] at z; cases z; exact ⟨by simpa using y, rfl⟩
    | false => rw [y] at z; cases z
  have kn : KnownS [(a, oe)] s1.heap X.base (frs X.stack) := by
    refine ⟨fun b o z => ?_, fun b o z => ?_, fun b o z => ?_⟩
    · obtain ⟨rfl, rfl⟩ := one b o z; exact g1
    · obtain ⟨rfl, rfl⟩ := one b o z
      intro hm
      exact (List.mem_cons.mp (I1.stkSub _ hm)).elim g3 g4
    · obtain ⟨rfl, rfl⟩ := one b o z; exact nb
  have nn : ∀ b o, List.lookup b [(a, oe)] = some o → H1 b = none := fun b o z => by obtain ⟨rfl, rfl⟩ := one b o z; exact g2
  have hl : us.length = ps.length := r.length ▸ F.len _ _ _ _ q
  have b2 := hb s1 us I1.kIn (by rw [List.append_nil]; exact hl)
  rw [List.append_nil] at b2
  have z := F.run X.A X.stack s1 _ ⟨us, []⟩ us vs _ _ hG hr (env0_pin I1.env0 kn nn) b2 r q
  have z2 : codeAny (model X.prog X.w) X.A (.call (.ref f) ⟨us, []⟩) (fun r s' => match r with | .ok (.ret u) => EP X pins σ Q u s' | _ => False) s1 := by
    refine codeAny_mono z fun r s' hq => ?_
    match r, hq with
    | .error _, hq => exact False.elim hq
    | .ok (.ret u), hq =>
      have := cr_unpin (E := fun _ _ _ => False) (E' := fun _ _ _ => False) (Q' := Q) kn nn (fun v H' _ q => q) (fun _ _ _ _ q => q) (r := .ok (.ret u)) hq
      exact I1.after this
  refine wpAny_call (codeAny_mono z2 fun r s' hq => ?_)
  match r, hq with
  | .ok (.ret u), hq => exact hq
theorem pe_ask {W : WX} (hN : X.N[i]? = some x) (hv : Vis X.env.scope x) (hG : X.A.guards = some []) (hr : Room k X.A) (tk : Takes X W) (hd : (x == ("__debug__" : Str)) = false := by decide) (hcd : (x == ("__classdict__" : Str)) = false := by decide) :
    PE X (.Call (.Name x p1) [] [] p2) (tAsk X.prog X.w X.K X.mg X.base k i W) := by
  refine ⟨fun pins s σ H Q I h => ?_⟩
  obtain ⟨f, hs, ⟨F, dV, doc, pm, c', ctv, hf⟩, hrun⟩ := h
  refine wpAny_Call_Name_kw (thn ((pe_var (pos := p1) (i := i) hN hv hd hcd).run pins s σ H (fun v H1 => v = .ref f ∧ H1 = H) I ⟨.ref f, hs, rfl, rfl⟩) ?_)
  rintro u s1 ⟨v, H1, I1, r1, rfl, e1⟩
  rw [e1] at I1
  obtain rfl : u = Value.ref f := r1
  refine PySem.W.callWith_F0 ⟨_, _, _, _, pinO_get I1.hok hf⟩ ?_
  refine wpAny_call (codeAny_mono (hrun X.A X.stack s1 hG hr I1.env0) fun r s' hq => ?_)
  match r, hq with
  | .error e, hq => exact tk _ _ (XE.of_call I1 (fun _ _ _ z => z) hq)
  | .ok (.ret u), hq => exact I1.after hq
end
end GX

set_option Elab.async false
set_option linter.all false
set_option maxRecDepth 100000
set_option maxHeartbeats 4000000
/-! ### a def called by one whose names are captured: its cells are known for the call -/
namespace GX
open PySem L2 PySem.Spec PyProof.Rows

/-- the maker's cells, as they stand -/
structure SOk (cells : List (Str × Addr)) (N : List Str) (sc : Scope) (σ : L2.St) (H : Hp) (S : List (Addr × Obj)) : Prop where
  none : ∀ b o, S.lookup b = some o → H b = none
  inj : ∀ x y c, cells.lookup x = some c → cells.lookup y = some c → x = y
  all : ∀ x c, cells.lookup x = some c → ∃ o v, S.lookup c = some o ∧ o.data = .cell v
  val : ∀ (i : Nat) x v, N[i]? = some x → σ[i]? = some (some v) → sc.names.lookup x = some .cell ∨ sc.names.lookup x = some .free → ∃ c o u, cells.lookup x = some c ∧ S.lookup c = some o ∧ o.data = .cell (some u) ∧ RelV v u
def tCallC (cells : List (Str × Addr)) (N : List Str) (sc : Scope) (sp : Sp) (E : L2.St → XK) (t : TA) : TE := fun σ H Q => t σ H fun vs H1 => ∀ S, SOk cells N sc σ H1 S →
  sp vs (pinA S H1) (fun v H' => (∀ b o, S.lookup b = some o → H' b = some (pinO o b)) → Q v (unpinA S H')) (fun c d H' => (∀ b o, S.lookup b = some o → H' b = some (pinO o b)) → E σ c d (unpinA S H'))
def pinsOf (cells : List (Str × Addr)) (h : Heap) : List (Str × Addr) → List (Addr × Obj)
  | [] => []
  | (x, c) :: r => match h.get? c with
    | some o => if cells.lookup x = some c then (c, o) :: pinsOf cells h r else pinsOf cells h r
    | none => pinsOf cells h r
theorem pinsOf_get {cells : List (Str × Addr)} {h : Heap} : ∀ {l : List (Str × Addr)} {b : Addr} {o : Obj}, (pinsOf cells h l).lookup b = some o → h.get? b = some o ∧ ∃ x, cells.lookup x = some b
  | [], _, _, e => by cases e
  | (x, c) :: r, b, o, e => by
    unfold pinsOf at e
    split at e
    · rename_i o2 ho
      split at e
      · rename_i hx
        rw [List.lookup_cons] at e
        cases q : b == c with
        | true =>
          rw [q] at e
          cases e
          obtain rfl : b = c := by simpa using q
          exact ⟨ho, x, hx⟩
        | false =>
          rw [q] at e
          exact pinsOf_get e
      · exact pinsOf_get e
    · exact pinsOf_get e
theorem pinsOf_all {cells : List (Str × Addr)} {h : Heap} {x : Str} {c : Addr} {o : Obj} (hx : cells.lookup x = some c) (ho : h.get? c = some o) : ∀ {l : List (Str × Addr)}, (x, c) ∈ l → ∃ o2, (pinsOf cells h l).lookup c = some o2
  | [], m => by cases m
  | (y, d) :: r, m => by
    unfold pinsOf
    rcases List.mem_cons.mp m with e | m
    · cases e
      rw [ho]
      dsimp only
      rw [if_pos hx]
      exact ⟨o, by rw [List.lookup_cons]; simp⟩
    · obtain ⟨o2, z⟩ := pinsOf_all hx ho m
      split
      · split
        · rw [List.lookup_cons]
          cases q : c == d with
          | true => exact ⟨_, rfl⟩
          | false => exact ⟨o2, z⟩
        · exact ⟨o2, z⟩
      · exact ⟨o2, z⟩
section
variable {X : Cx} {e : Expr} {es : List Expr} {t : TA} {p pos : Pos} {x : Str} {k : Nat} {f : Addr} {fd : FuncData} {ps : List Str} {sp : Sp} {E : L2.St → XK} {CX : CXT}
theorem sok_of {pins : List (Addr × Obj)} {σ : L2.St} {H : Hp} {s : Shared} (I : Inv X pins σ H s) (hfn : ∀ x, X.fn x = true) :
    SOk X.env.cells X.N X.env.scope σ H (pinsOf X.env.cells s.heap X.env.cells) ∧ KnownS (pinsOf X.env.cells s.heap X.env.cells) s.heap X.base (frs X.stack) := by
  have get : ∀ b o, (pinsOf X.env.cells s.heap X.env.cells).lookup b = some o → s.heap.get? b = some o ∧ ∃ x, X.env.cells.lookup x = some b := fun b o e => pinsOf_get e
  have all : ∀ x c, X.env.cells.lookup x = some c → ∃ o v, (pinsOf X.env.cells s.heap X.env.cells).lookup c = some o ∧ o.data = .cell v := by
    intro x c e
    obtain ⟨v, o, ho, hd⟩ := I.cell x c e
    obtain ⟨o2, z⟩ := pinsOf_all e ho (PySem.mem_of_lookup e)
    have := (get c o2 z).1
    rw [ho] at this
    cases this
    exact ⟨o, v, z, hd⟩
  refine ⟨⟨fun b o e => ?_, I.ok.inj, all, fun i x v e1 e2 e3 => ?_⟩, fun b o e => (get b o e).1, fun b o e hm => ?_, fun b o e => ?_⟩
  · obtain ⟨_, x, hx⟩ := get b o e
    exact I.freeC x b hx
  · obtain ⟨m, hn, hl⟩ := I.loc
    obtain ⟨u, r, q⟩ := hl i x v e1 e2 (.inr e3)
    rcases q with ⟨k, _⟩ | ⟨_, c, ec, o, ho, hd⟩
    · have k : X.env.scope.names.lookup x = some .local := k
      rcases e3 with e3 | e3 <;> rw [e3] at k <;> cases k
    · obtain ⟨o2, v2, z, hd2⟩ := all x c ec
      have := (get c o2 z).1
      rw [ho] at this
      cases this
      exact ⟨c, o, u, ec, z, hd, r⟩
  · obtain ⟨_, x, hx⟩ := get b o e
    have big := I.ok.cab x b (hfn x) hx
    rcases List.mem_cons.mp (I.stkSub b hm) with z | z
    · exact I.cne x b hx z
    · obtain ⟨_, o2, h2, _⟩ := I.ok.funs.mem z
      exact absurd (Nat.lt_of_lt_of_le (Heap.lt_size h2) big) (Nat.lt_irrefl _)
  · obtain ⟨_, x, hx⟩ := get b o e
    have big := I.ok.cab x b (hfn x) hx
    exact Heap.get?_none_of_le (Nat.le_trans I.ok.bsz big)
theorem pe_callC (F : FnG X.prog X.w X.K X.mg X.base (L2.CX X.prog X.w) k f fd ps sp) (hfn : ∀ x, X.fn x = true) (hG : X.A.guards = some []) (hr : Room k X.A) (hg : Gl X x) (hm : X.mg x = some (.ref f)) (hk : PySem.W.keepIn X.K (.ref f) = true)
    (hb : Binds X.K fd ps []) (hx : ∀ σ, PassesAt (L2.CX X.prog X.w) X σ (E σ)) (ha : PA X (e :: es) t) (hdb : (x == ("__debug__" : Str)) = false := by decide)
    (he : starEach (e :: es) X.env = (false, eval e X.env) :: starEach es X.env := by rfl) (hpl : (backTo pos (starEach es X.env)).any (·.1) = false := by rfl) :
    PE X (.Call (.Name x p) (e :: es) [] pos) (tCallC X.env.cells X.N X.env.scope sp E t) := by
  refine ⟨fun pins s σ H Q I h => ?_⟩
  refine wpAny_Call_Name_kw (ld_glob I hg hm ?_ hdb)
  refine PySem.W.callWith_K (h₀ := X.base) I.ok.mod.kin hk ?_ he hpl
  refine thn (ha.run pos pins s σ H _ I h) ?_
  rintro us s1 ⟨vs, H1, I1, r, q⟩
  refine ⟨I1.kIn, ?_⟩
  obtain ⟨so, kn⟩ := sok_of I1 hfn
  have q := q _ so
  have hl : us.length = ps.length := r.length ▸ F.len _ _ _ _ q
  have b2 := hb s1 us I1.kIn (by rw [List.append_nil]; exact hl)
  rw [List.append_nil] at b2
  have z := F.run X.A X.stack s1 _ ⟨us, []⟩ us vs _ _ hG hr (env0_pin I1.env0 kn so.none) b2 r q
  refine wpAny_call (codeAny_mono z fun r s' hq => ?_)
  have hq2 := cr_unpin (E' := E σ) (Q' := Q) kn so.none (fun v H' a q => q a) (fun c d H' a q => q a) hq
  match r, hq2 with
  | .error e, hq2 => exact hx σ pins H1 s1 e s' I1 hq2
  | .ok (.ret u), hq2 => exact I1.after hq2
/-- a def that may let exceptions out, called; defaults and all -/
theorem pe_callX (F : FnG X.prog X.w X.K X.mg X.base (L2.CX X.prog X.w) k f fd ps sp) {ds : List Value} {dvs : List V} (hG : X.A.guards = some []) (hr : Room k X.A) (hg : Gl X x) (hm : X.mg x = some (.ref f)) (hk : PySem.W.keepIn X.K (.ref f) = true)
    (hb : Binds X.K fd ps ds) (hd : Vals dvs ds) (hx : ∀ σ, PassesAt (L2.CX X.prog X.w) X σ (E σ)) (ha : PA X (e :: es) t) (hdb : (x == ("__debug__" : Str)) = false := by decide)
    (he : starEach (e :: es) X.env = (false, eval e X.env) :: starEach es X.env := by rfl) (hpl : (backTo pos (starEach es X.env)).any (·.1) = false := by rfl) :
    PE X (.Call (.Name x p) (e :: es) [] pos) (fun σ H Q => t σ H fun vs H1 => sp (vs ++ dvs) H1 Q (E σ)) := by
  refine ⟨fun pins s σ H Q I h => ?_⟩
  refine wpAny_Call_Name_kw (ld_glob I hg hm ?_ hdb)
  refine PySem.W.callWith_K (h₀ := X.base) I.ok.mod.kin hk ?_ he hpl
  refine thn (ha.run pos pins s σ H _ I h) ?_
  rintro us s1 ⟨vs, H1, I1, r, q⟩
  refine ⟨I1.kIn, ?_⟩
  have r2 := r.append hd
  have hl : (us ++ ds).length = ps.length := r2.length ▸ F.len _ _ _ _ q
  have z := F.run X.A X.stack s1 H1 ⟨us, []⟩ _ _ Q (E σ) hG hr I1.env0 (hb s1 us I1.kIn hl) r2 q
  refine wpAny_call (codeAny_mono z fun r s' hq => ?_)
  match r, hq with
  | .error e, hq => exact hx σ pins H1 s1 e s' I1 hq
  | .ok (.ret u), hq => exact I1.after hq
end
end GX

set_option Elab.async false
set_option linter.all false
set_option maxRecDepth 100000
set_option maxHeartbeats 4000000
/-! ### defs that let exceptions out: locks let go, a slot that is no name -/
namespace GX
open PySem L2 PySem.Spec PyProof.Rows

/-- what was not locked at H0 is let go -/
def isDct : Option HO → Bool
  | some (.dK _) => true
  | some (.dT _) => true
  | _ => false
def relk (p : Addr → Bool) (H0 H : Hp) : Hp := fun b => match H b with
  | some (.frz o u) => if (p b && isDct (H0 b) && isDct (some u)) = true then some u else some (.frz o u)
  | x => x
section
variable {H0 H : Hp} {b : Addr} {p : Addr → Bool}
theorem relk_none (e : H b = none) : relk p H0 H b = none := by unfold relk; rw [e]
theorem relk_plain {o : HO} (e : H b = some o) (n : ∀ q u, o ≠ .frz q u) : relk p H0 H b = some o := by
  unfold relk
  rw [e]
  cases o with
  | frz q u => exact absurd rfl (n q u)
  | _ => rfl
theorem relk_frz {o : Obj} {u : HO} (e : H b = some (.frz o u)) : relk p H0 H b = some (.frz o u) ∨ (relk p H0 H b = some u ∧ isDct (H0 b) = true ∧ isDct (some u) = true) := by
  unfold relk
  rw [e]
  dsimp only
  split
  · rename_i z
    simp only [Bool.and_eq_true] at z
    exact .inr ⟨rfl, z.1.2, z.2⟩
  · exact .inl rfl
theorem relk_keep {o : Obj} {u : HO} (e : H b = some (.frz o u)) (e0 : H0 b = some (.frz o u)) : relk p H0 H b = some (.frz o u) := by
  rcases relk_frz (H0 := H0) (p := p) e with z | ⟨_, z, _⟩
  · exact z
  · rw [e0] at z
    cases z
theorem relk_some {o : HO} (e : relk p H0 H b = some o) : H b = some o ∨ ∃ r, H b = some (.frz r o) := by
  cases q : H b with
  | none => rw [relk_none q] at e; cases e
  | some v =>
    cases v with
    | frz r u =>
      rcases relk_frz (H0 := H0) (p := p) q with z | ⟨z, _, _⟩
      · rw [z] at e; cases e; exact .inl rfl
      · rw [z] at e; cases e; exact .inr ⟨r, rfl⟩
    | _ => rw [relk_plain q (fun _ _ z => nomatch z)] at e; cases e; exact .inl rfl
end
theorem inv_relk (p : Addr → Bool) {X : Cx} {pins : List (Addr × Obj)} {σ : L2.St} {H : Hp} {s : Shared} (I : Inv X pins σ H s) : Inv X pins σ (relk p X.H_0 H) s := by
  refine ⟨I.ok, I.os, I.bare, ⟨I.base.keep, I.base.slot, fun b o e n hx => relk_none (I.base.free b o e n hx), I.base.there, fun b xs e => relk_plain (I.base.tups b xs e) (fun _ _ z => nomatch z), fun b o x e => relk_keep (I.base.frzs b o x e) e, fun b ps e => ?_⟩, I.loc, I.cell, relk_none I.free, fun x c e => relk_none (I.freeC x c e), fun y hp => ?_, fun b o e => ?_, I.len⟩
  · obtain ⟨m, q⟩ := I.base.tbls b ps e
    exact ⟨m, relk_plain q (fun _ _ z => nomatch z)⟩
  · obtain ⟨e, n, r⟩ := I.pin y hp
    exact ⟨e, relk_none n, r⟩
  · have st : ObjOk X.prog X.w H s.heap b o := by
      rcases relk_some e with q | ⟨r, q⟩
      · exact I.hok b o q
      · exact (I.hok b _ q).2
    exact st.stay (fun _ _ _ z => z) (fun c z => relk_plain z (fun _ _ z => nomatch z)) fun c xs z => relk_plain z (fun _ _ z => nomatch z)
/-- what was locked is locked still -/
def Frzs (H0 H : Hp) : Prop := ∀ b o u, H0 b = some (.frz o u) → H b = some (.frz o u)
theorem takes_relk {X : Cx} {W : WX} (tk : Takes X W) : Takes X (fun cls d σ H => Frzs X.H_0 H → ∃ p, W cls d σ (relk p X.H_0 H)) := fun u s' ⟨a, B, sI, pins, σ, H, cls, d, e, I, nb, up, sky, na, os, ag, w⟩ =>
  let ⟨p, w⟩ := w I.base.frzs
  tk u s' ⟨a, B, sI, pins, σ, relk p X.H_0 H, cls, d, e, inv_relk p I, nb, up, sky, relk_none na, os, ag, w⟩
/-- a slot whose name is none of the text's may hold what one likes -/
theorem inv_ghost {X : Cx} {pins : List (Addr × Obj)} {σ : L2.St} {H : Hp} {s : Shared} {g : Nat} {x : Str} (I : Inv X pins σ H s) (hN : X.N.Nodup) (hx : X.N[g]? = some x) (nv : ¬ Vis X.env.scope x) (v : V) : Inv X pins (σ.set g (some v)) H s := by
  refine ⟨I.ok, I.os, I.bare, I.base, ?_, I.cell, I.free, I.freeC, I.pin, I.hok, by rw [List.length_set]; exact I.len⟩
  obtain ⟨m, hn, hl⟩ := I.loc
  refine ⟨m, hn, fun i y w e1 e2 e3 => ?_⟩
  by_cases q : g = i
  · subst q
    rw [hx] at e1
    cases e1
    exact absurd e3 nv
  · rw [List.getElem?_set_ne q] at e2
    exact hl i y w e1 e2 e3
theorem pss_ghost {X : Cx} {sts : List Stmt} {t : TS} {g : Nat} {x : Str} (h : PSs X sts t) (hN : X.N.Nodup) (hx : X.N[g]? = some x) (nv : ¬ Vis X.env.scope x) (v : V) : PSs X sts (fun D σ H => t D (σ.set g (some v)) H) :=
  ⟨fun pins s σ H D I z => h.run pins s _ H D (inv_ghost I hN hx nv v) z⟩
section
variable {P : Program} {w : World} {K : PySem.W.Frag} {mg : Str → Option Value} {base : Heap}
abbrev cxX (P : Program) (w : World) (K : PySem.W.Frag) (mg : Str → Option Value) (base : Heap) (N : List Str) (qual : Str) (scope : Scope) (f : Addr) (cd : Value) (A : Around) (outer : List Env) (s : Shared) (H : Hp) (E : XK) : Cx := cxOf (L2.CX P w) P w K mg base N qual scope f cd A outer s H E
/-- what is wished of an exception within a def: what its caller wishes, locks let go -/
abbrev wDef (H0 : Hp) (E : XK) : WX := fun cls d _ H => Frzs H0 H → ∃ p, E cls d (relk p H0 H)
theorem takes_def {N : List Str} {qual : Str} {scope : Scope} {f : Addr} {cd : Value} {A : Around} {outer : List Env} {s : Shared} {H : Hp} {E : XK} : Takes (cxX P w K mg base N qual scope f cd A outer s H E) (wDef H E) :=
  takes_relk (X := cxX P w K mg base N qual scope f cd A outer s H E) (W := fun cls d _ H' => E cls d H') (takes_of rfl rfl rfl rfl)
theorem passes_def {N : List Str} {qual : Str} {scope : Scope} {f : Addr} {cd : Value} {A : Around} {outer : List Env} {s : Shared} {H : Hp} {E : XK} :
    PassesOwn (model P w) (cxX P w K mg base N qual scope f cd A outer s H E).A (cxX P w K mg base N qual scope f cd A outer s H E).env (cxX P w K mg base N qual scope f cd A outer s H E).xe := passes_of rfl
/-- a def of the text that may let exceptions out -/
theorem okGX {x qual : Str} {st : Stmt} {f : Addr} {fd : FuncData} {N ps : List Str} {k : Nat} {sp : Sp} (F : Fun K x qual st f fd) (S : FnScope N ps (defScope st)) (len : ∀ vs H Q E, sp vs H Q E → vs.length = ps.length)
    (hbody : ∀ (cdv : Value) (A : Around) (outer : List Env) (s : Shared) (H : Hp) (vs : List V) (Q : VK) (E : XK), A.guards = some [] → Room k (A.deeper (envOfC qual (defScope st) s.heap.objs.size f cdv)) → sp vs H Q E →
      ∃ t, PSs (cxX P w K mg base N qual (defScope st) f cdv A outer s H E) (defBody st) t ∧ t { nx := fun _ H' => Q .non H', rt := Q } (start N vs) H) : FnG P w K mg base (L2.CX P w) (k + 1) f fd ps sp := by
  obtain ⟨oc, od, kV, doc, pm, an, cdv, ct, osl, rfl, lk, hcd⟩ := F.ex
  exact fnG_of lk hcd S len fun A outer s H vs Q E hg hr hsp => hbody cdv A outer s H vs Q E hg hr hsp
end
section
variable {X : Cx} {C : Addr} {k : Nat} {f : Addr} {fd : FuncData} {ps : List Str} {sp : Sp} {dvs : List V} {ds : List Value} {E : L2.St → XK} {x m : Str} {p pos apos : Pos} {e o : Expr} {es : List Expr} {ta : TE} {t : TA}
theorem run_fnX {pins : List (Addr × Obj)} {σ : L2.St} {H : Hp} {s : Shared} {Q : VK} {us : List Value} {vs : List V} {E : XK} (F : FnG X.prog X.w X.K X.mg X.base (L2.CX X.prog X.w) k f fd ps sp) (hG : X.A.guards = some []) (hr : Room k X.A) (hb : Binds X.K fd ps ds)
    (hd : Vals dvs ds) (hx : PassesAt (L2.CX X.prog X.w) X σ E) (I : Inv X pins σ H s) (r : Vals vs us) (h : sp (vs ++ dvs) H Q E) : wpAny (model X.prog X.w) X.A (call (.ref f) us) (EP X pins σ Q) X.xe s := by
  have r2 := r.append hd
  have hl : (us ++ ds).length = ps.length := r2.length ▸ F.len _ _ _ _ h
  have z := F.run X.A X.stack s H ⟨us, []⟩ (us ++ ds) (vs ++ dvs) Q E hG hr I.env0 (hb s us I.kIn hl) r2 h
  refine wpAny_call (codeAny_mono z fun r s' hq => ?_)
  match r, hq with
  | .error e, hq => exact hx pins H s e s' I hq
  | .ok (.ret u), hq => exact I.after hq
def tMethX (C : Addr) (m : Str) (sp : Sp) (dvs : List V) (E : L2.St → XK) (ta : TE) (t : TA) : TE := fun σ H Q => ta σ H fun x H1 => ∃ a dx fs, x = .ref a ∧ H1 a = some (.ins C dx fs) ∧ fs.lookup m = none ∧ t σ H1 fun vs H2 => sp (x :: (vs ++ dvs)) H2 Q (E σ)
def tCallX (sp : Sp) (dvs : List V) (E : L2.St → XK) (t : TA) : TE := fun σ H Q => t σ H fun vs H1 => sp (vs ++ dvs) H1 Q (E σ)
def tMakeX (C : Addr) (sp : Sp) (dvs : List V) (E : L2.St → XK) (t : TA) : TE := fun σ H Q => t σ H fun vs H1 => ∀ x dx, H1 x = none → H1 dx = none → dx ≠ x →
  sp (.ref x :: (vs ++ dvs)) (upd (upd H1 dx (.own x)) x (.ins C dx [])) (fun v H2 => v = .non ∧ Q (.ref x) H2) (E σ)
theorem pe_calX (F : FnG X.prog X.w X.K X.mg X.base (L2.CX X.prog X.w) k f fd ps sp) (hG : X.A.guards = some []) (hr : Room k X.A) (hg : Gl X x) (hm : X.mg x = some (.ref f)) (hk : PySem.W.keepIn X.K (.ref f) = true)
    (hb : Binds X.K fd ps ds) (hd : Vals dvs ds) (hx : ∀ σ, PassesAt (L2.CX X.prog X.w) X σ (E σ)) (ha : PA X (e :: es) t) (hdb : (x == ("__debug__" : Str)) = false := by decide)
    (he : starEach (e :: es) X.env = (false, eval e X.env) :: starEach es X.env := by rfl) (hpl : (backTo pos (starEach es X.env)).any (·.1) = false := by rfl) :
    PE X (.Call (.Name x p) (e :: es) [] pos) (tCallX sp dvs E t) := pe_callX F hG hr hg hm hk hb hd hx ha hdb he hpl
theorem pe_calX0 (F : FnG X.prog X.w X.K X.mg X.base (L2.CX X.prog X.w) k f fd ps sp) (hG : X.A.guards = some []) (hr : Room k X.A) (hg : Gl X x) (hm : X.mg x = some (.ref f)) (hk : PySem.W.keepIn X.K (.ref f) = true)
    (hb : Binds X.K fd ps ds) (hd : Vals dvs ds) (hx : ∀ σ, PassesAt (L2.CX X.prog X.w) X σ (E σ)) (hdb : (x == ("__debug__" : Str)) = false := by decide) :
    PE X (.Call (.Name x p) [] [] pos) (tCallX sp dvs E tNil) := by
  refine ⟨fun pins s σ H Q I h => ?_⟩
  refine wpAny_Call_Name_kw (ld_glob I hg hm ?_ hdb)
  exact PySem.W.callWith_K0 I.kIn hk (run_fnX (us := []) (vs := []) F hG hr hb hd (hx σ) I .nil h)
theorem pe_methX {pl : Sem Bool} (he : PE X o ta) (c : Cls X.K C) (hm : Meth X.K C m f) (F : FnG X.prog X.w X.K X.mg X.base (L2.CX X.prog X.w) k f fd ps sp) (hG : X.A.guards = some []) (hr : Room k X.A) (hb : Binds X.K fd ps ds) (hd : Vals dvs ds)
    (hx : ∀ σ, PassesAt (L2.CX X.prog X.w) X σ (E σ)) (ha : PA X (e :: es) t)
    (hst : starEach (e :: es) X.env = (false, eval e X.env) :: starEach es X.env := by rfl) (hpl : (backTo pos (starEach es X.env)).any (·.1) = false := by rfl)
    (ht : eval (.Call (.Attribute o m apos) (e :: es) [] pos) X.env = (do
      let ov ← eval o X.env
      standAt apos.atName
      let (g, fst) ← holding [ov] (getMethod ov m pl)
      callWith pos g fst (backTo pos (starEach (e :: es) X.env)) (backToKw pos (keywordEach [] X.env))) := by rfl) :
    PE X (.Call (.Attribute o m apos) (e :: es) [] pos) (tMethX C m sp dvs E ta t) := by
  refine ⟨fun pins s σ H Q I h => ?_⟩
  refine PySem.W.methodCall_KW (pl := pl) (thn (he.run pins s σ H _ I h) ?_) ht
  rintro u s1 ⟨y, H1, I1, ry, a, dx, fs, rfl, ea, l, q⟩
  obtain rfl : u = Value.ref a := ry
  refine getmeth_ok I1 ea c hm l ?_
  refine PySem.W.callWith_K (first := [.ref a]) (h₀ := X.base) I.ok.mod.kin hm.kp ?_ hst hpl
  refine thn (ha.run pos pins s1 σ H1 _ I1 q) ?_
  rintro us s2 ⟨vs, H2, I2, r, q2⟩
  exact ⟨I2.kIn, run_fnX (us := .ref a :: us) (vs := .ref a :: vs) F hG hr hb hd (hx σ) I2 (.cons rfl r) q2⟩
theorem pe_methX0 {pl : Sem Bool} (he : PE X o ta) (c : Cls X.K C) (hm : Meth X.K C m f) (F : FnG X.prog X.w X.K X.mg X.base (L2.CX X.prog X.w) k f fd ps sp) (hG : X.A.guards = some []) (hr : Room k X.A) (hb : Binds X.K fd ps ds) (hd : Vals dvs ds)
    (hx : ∀ σ, PassesAt (L2.CX X.prog X.w) X σ (E σ))
    (ht : eval (.Call (.Attribute o m apos) [] [] pos) X.env = (do
      let ov ← eval o X.env
      standAt apos.atName
      let (g, fst) ← holding [ov] (getMethod ov m pl)
      callWith pos g fst (backTo pos (starEach [] X.env)) (backToKw pos (keywordEach [] X.env))) := by rfl) :
    PE X (.Call (.Attribute o m apos) [] [] pos) (tMethX C m sp dvs E ta tNil) := by
  refine ⟨fun pins s σ H Q I h => ?_⟩
  refine PySem.W.methodCall_KW (pl := pl) (thn (he.run pins s σ H _ I h) ?_) ht
  rintro u s1 ⟨y, H1, I1, ry, a, dx, fs, rfl, ea, l, q⟩
  obtain rfl : u = Value.ref a := ry
  refine getmeth_ok I1 ea c hm l ?_
  exact PySem.W.callWith_K0 (first := [.ref a]) I1.kIn hm.kp (run_fnX (us := [.ref a]) (vs := [.ref a]) F hG hr hb hd (hx σ) I1 (.cons rfl .nil) q)
theorem pe_makeX (M : Mk X.K C f) (F : FnG X.prog X.w X.K X.mg X.base (L2.CX X.prog X.w) k f fd ps sp) (hG : X.A.guards = some []) (hr : Room (k + 1) X.A) (hg : Gl X x) (hm : X.mg x = some (.ref C)) (hb : Binds X.K fd ps ds) (hd : Vals dvs ds)
    (hx : ∀ σ, PassesAt (L2.CX X.prog X.w) X σ (E σ)) (ha : PA X (e :: es) t) (hdb : (x == ("__debug__" : Str)) = false := by decide)
    (he : starEach (e :: es) X.env = (false, eval e X.env) :: starEach es X.env := by rfl) (hpl : (backTo pos (starEach es X.env)).any (·.1) = false := by rfl) :
    PE X (.Call (.Name x p) (e :: es) [] pos) (tMakeX C sp dvs E t) := by
  refine ⟨fun pins s σ H Q I h => ?_⟩
  refine wpAny_Call_Name_kw (ld_glob I hg hm ?_ hdb)
  refine PySem.W.callWith_K (h₀ := X.base) I.ok.mod.kin M.kp ?_ he hpl
  refine thn (ha.run pos pins s σ H _ I h) ?_
  rintro us s1 ⟨vs, H1, I1, r, q⟩
  refine ⟨I1.kIn, ?_⟩
  let d0 := s1.heap.objs.size
  have hq := q (d0 + 1) d0 (I1.hok.fresh (Nat.le_succ _)) (I1.hok.fresh (Nat.le_refl _)) (Nat.ne_of_lt (Nat.lt_succ_self _))
  have I2 := Inv.made (C := C) I1
  have r2 : Vals (V.ref (d0 + 1) :: (vs ++ dvs)) (Value.ref (d0 + 1) :: (us ++ ds)) := .cons rfl (r.append hd)
  have hl : (Value.ref (d0 + 1) :: us ++ ds).length = ps.length := by
    rw [← F.len _ _ _ _ hq]
    exact r2.length.symm
  have z := F.run _ X.stack _ _ ⟨Value.ref (d0 + 1) :: us, []⟩ (Value.ref (d0 + 1) :: (us ++ ds)) _ _ (E σ) (guards_make hG) (hr.make C us []) (I2.env0.make C us []) (hb _ (Value.ref (d0 + 1) :: us) I2.kIn hl) r2 hq
  refine wpAny_call (make_map (f := f) I1.kIn M.makes M.init (beq_iff_eq.mp M.fn) (codeAny_mono z fun r s' hq' => ?_))
  match r, hq' with
  | .error e, hq' => exact hx σ pins _ _ e s' I2 hq'
  | .ok (.ret u), hq' =>
    obtain ⟨v, H', I3, rv, ev, q3⟩ := I2.after hq'
    subst ev
    exact ⟨rv, ⟨V.ref (d0 + 1), H', I3, rfl, q3⟩⟩
end
end GX

set_option Elab.async false
set_option linter.all false
set_option maxRecDepth 100000
set_option maxHeartbeats 4000000
/-! ### the layer of data: values without addresses, and few cells that may change -/
namespace GX
open PySem L2 PySem.Spec
inductive D where
  | non | bl (b : Bool) | int (i : Int) | str (z : Str) | ty (n : String)
  | lst (xs : List D) | tup (xs : List D)
  | dK (kvs : List (Key × D)) | dT (kvs : List (List Key × D))
  | ins (C : Addr) (fs : List (Str × D))
  | ref (a : Addr)
  /-- a caught exception at a, its dict at dd -/
  | xc (a dd C : Addr) (fs : List (Str × D))
  /-- no value at all: what is true of the heap without the cells -/
  | fact (φ : Hp → Prop)
/-- a cell: what may change -/
inductive DO where
  | lst (xs : List D) | dK (kvs : List (Key × D)) | dT (kvs : List (List Key × D))
  | ins (C : Addr) (fs : List (Str × D)) | src (la : Addr) | held
  /-- a dict while it is walked -/
  | dKl (o : Obj) (kvs : List (Key × V)) (kds : List (Key × D))
  /-- a closure; a captured name's cell, its value known; a known object; a table of code objects -/
  | clo (F : CloF) | cellv (o : Obj) (d : D) | pin (o : Obj) | tab (q : Str)
abbrev Hs := Addr → Option DO
def seth (h : Hs) (a : Addr) (o : DO) : Hs := fun b => if b = a then some o else h b
def delh (h : Hs) (a : Addr) : Hs := fun b => if b = a then none else h b
theorem seth_same {h : Hs} {a : Addr} {o : DO} : seth h a o a = some o := if_pos rfl
theorem seth_ne {h : Hs} {a b : Addr} {o : DO} (n : b ≠ a) : seth h a o b = h b := if_neg n
theorem delh_same {h : Hs} {a : Addr} : delh h a a = none := if_pos rfl
theorem delh_ne {h : Hs} {a b : Addr} (n : b ≠ a) : delh h a b = h b := if_neg n
theorem seth_seth {h : Hs} {a : Addr} {o u : DO} : seth (seth h a o) a u = seth h a u := by
  funext b; unfold seth; split <;> rfl
theorem delh_seth {h : Hs} {a : Addr} {o : DO} (n : h a = none) : delh (seth h a o) a = h := by
  funext b; unfold delh seth
  by_cases e : b = a
  · subst e; rw [if_pos rfl, n]
  · rw [if_neg e, if_neg e]
theorem seth_comm {h : Hs} {a b : Addr} {o u : DO} (n : a ≠ b) : seth (seth h a o) b u = seth (seth h b u) a o := by
  funext c; unfold seth
  by_cases e : c = b
  · subst e; rw [if_pos rfl, if_neg n.symm, if_pos rfl]
  · rw [if_neg e, if_neg e]
theorem delh_comm {h : Hs} {a b : Addr} {o : DO} (n : a ≠ b) : delh (seth h a o) b = seth (delh h b) a o := by
  funext c; unfold seth delh
  by_cases e : c = b
  · subst e; rw [if_pos rfl, if_neg n.symm, if_pos rfl]
  · rw [if_neg e, if_neg e]
theorem delh_none {h : Hs} {a : Addr} (n : h a = none) : delh h a = h := by
  funext b; unfold delh
  by_cases e : b = a
  · subst e; rw [if_pos rfl, n]
  · rw [if_neg e]
theorem h_ne {h : Hs} {a b : Addr} {o : DO} (x : h a = some o) (y : h b = none) : a ≠ b := by
  rintro rfl; rw [x] at y; cases y
theorem h_ne2 {h : Hs} {a b : Addr} {o u : DO} (x : h a = some o) (y : h b = some u) (n : o ≠ u) : a ≠ b := by
  rintro rfl; rw [x] at y; exact n (Option.some.inj y)
/-- the heap without the cells -/
def Fz (h : Hs) (H : Hp) : Hp := fun b => if (h b).isSome = true then none else H b
theorem fz_out {h : Hs} {H : Hp} {b : Addr} (n : h b = none) : Fz h H b = H b := by unfold Fz; rw [n]; rfl
theorem fz_in {h : Hs} {H : Hp} {b : Addr} {o : DO} (n : h b = some o) : Fz h H b = none := by unfold Fz; rw [n]; rfl
theorem fz_some {h : Hs} {H : Hp} {b : Addr} {o : HO} (e : Fz h H b = some o) : h b = none ∧ H b = some o := by
  cases n : h b with
  | none => rw [fz_out n] at e; exact ⟨rfl, e⟩
  | some u => rw [fz_in n] at e; cases e
/-- a dict under a lock is what it was -/
def un : HO → HO
  | .frz _ (.dK k) => .dK k
  | .frz _ (.dT k) => .dT k
  | o => o
/-- up to locks -/
def SameU (G G' : Hp) : Prop := ∀ b o, G b = some o → ∃ o', G' b = some o' ∧ un o' = un o ∧ ((∀ k, un o ≠ .dK k) → (∀ k, un o ≠ .dT k) → o' = o)
theorem sameU {G G' : Hp} (s : Same G G') : SameU G G' := fun b o e => ⟨o, s b o e, rfl, fun _ _ => rfl⟩
theorem SameU.keep {G G' : Hp} (s : SameU G G') {b : Addr} {o : HO} (e : G b = some o) (h1 : ∀ k, un o ≠ .dK k) (h2 : ∀ k, un o ≠ .dT k) : G' b = some o := by
  obtain ⟨o', e', _, k⟩ := s b o e
  rw [e', k h1 h2]
theorem SameU.trans {G G1 G2 : Hp} (s : SameU G G1) (s' : SameU G1 G2) : SameU G G2 := fun b o e => by
  obtain ⟨o1, e1, u1, k1⟩ := s b o e
  obtain ⟨o2, e2, u2, k2⟩ := s' b o1 e1
  refine ⟨o2, e2, u2.trans u1, fun h1 h2 => ?_⟩
  rw [k2 (fun k => by rw [u1]; exact h1 k) (fun k => by rw [u1]; exact h2 k), k1 h1 h2]
mutual
/-- a value's data, over what does not change -/
inductive Dx (G : Hp) : V → D → Prop
  | non : Dx G .non .non
  | bl (b : Bool) : Dx G (.bl b) (.bl b)
  | int (i : Int) : Dx G (.int i) (.int i)
  | str (z : Str) : Dx G (.str z) (.str z)
  | ty (n : String) : Dx G (.ty n) (.ty n)
  | ref (a : Addr) : Dx G (.ref a) (.ref a)
  | lst {p : Addr} {vs : List V} {ds : List D} : G p = some (.lst vs) → DxA G vs ds → Dx G (.ref p) (.lst ds)
  | tup {p : Addr} {vs : List V} {ds : List D} : G p = some (.tup vs) → DxA G vs ds → Dx G (.ref p) (.tup ds)
  | dK {p : Addr} {u : HO} {kvs : List (Key × V)} {kds : List (Key × D)} : G p = some u → un u = .dK kvs → kvs.map (·.1) = kds.map (·.1) → DxA G (kvs.map (·.2)) (kds.map (·.2)) → Dx G (.ref p) (.dK kds)
  | dT {p : Addr} {u : HO} {kvs : List (List Key × V)} {kds : List (List Key × D)} : G p = some u → un u = .dT kvs → kvs.map (·.1) = kds.map (·.1) → DxA G (kvs.map (·.2)) (kds.map (·.2)) → Dx G (.ref p) (.dT kds)
  | ins {p C dx : Addr} {ws : List (Str × V)} {fs : List (Str × D)} : G p = some (.ins C dx ws) → ws.map (·.1) = fs.map (·.1) → DxA G (ws.map (·.2)) (fs.map (·.2)) → Dx G (.ref p) (.ins C fs)
  | xc {a dd C : Addr} {ws : List (Str × V)} {fs : List (Str × D)} : G dd = some (.xd ws) → ws.map (·.1) = fs.map (·.1) → DxA G (ws.map (·.2)) (fs.map (·.2)) → Dx G (.ref a) (.xc a dd C fs)
  | fact {φ : Hp → Prop} : φ G → (∀ G1 G2, SameU G1 G2 → φ G1 → φ G2) → Dx G (.ref 0) (.fact φ)
inductive DxA (G : Hp) : List V → List D → Prop
  | nil : DxA G [] []
  | cons {v : V} {d : D} {vs : List V} {ds : List D} : Dx G v d → DxA G vs ds → DxA G (v :: vs) (d :: ds)
end
mutual
theorem Dx.monoU {G G' : Hp} (s : SameU G G') : ∀ {v : V} {d : D}, Dx G v d → Dx G' v d
  | _, _, .non => .non
  | _, _, .bl b => .bl b
  | _, _, .int i => .int i
  | _, _, .str z => .str z
  | _, _, .ty n => .ty n
  | _, _, .ref a => .ref a
  | _, _, .lst h a => .lst (s.keep h (fun _ e => nomatch e) (fun _ e => nomatch e)) (DxA.monoU s a)
  | _, _, .tup h a => .tup (s.keep h (fun _ e => nomatch e) (fun _ e => nomatch e)) (DxA.monoU s a)
  | _, _, .dK h u e a => by
    obtain ⟨o', e1, e2, _⟩ := s _ _ h
    exact .dK e1 (e2.trans u) e (DxA.monoU s a)
  | _, _, .dT h u e a => by
    obtain ⟨o', e1, e2, _⟩ := s _ _ h
    exact .dT e1 (e2.trans u) e (DxA.monoU s a)
  | _, _, .ins h e a => .ins (s.keep h (fun _ e => nomatch e) (fun _ e => nomatch e)) e (DxA.monoU s a)
  | _, _, .xc h e a => .xc (s.keep h (fun _ e => nomatch e) (fun _ e => nomatch e)) e (DxA.monoU s a)
  | _, _, .fact h m => .fact (m _ _ s h) m
theorem DxA.monoU {G G' : Hp} (s : SameU G G') : ∀ {v : List V} {d : List D}, DxA G v d → DxA G' v d
  | _, _, .nil => .nil
  | _, _, .cons h a => .cons (Dx.monoU s h) (DxA.monoU s a)
end
theorem Dx.mono {G G' : Hp} (s : Same G G') {v : V} {d : D} (h : Dx G v d) : Dx G' v d := h.monoU (sameU s)
theorem DxA.mono {G G' : Hp} (s : Same G G') {v : List V} {d : List D} (h : DxA G v d) : DxA G' v d := h.monoU (sameU s)
section
variable {G : Hp}
theorem DxA.len : ∀ {vs : List V} {ds : List D}, DxA G vs ds → vs.length = ds.length
  | _, _, .nil => rfl
  | _, _, .cons _ a => congrArg (· + 1) (DxA.len a)
theorem DxA.get : ∀ {vs : List V} {ds : List D} {i : Nat} {d : D}, DxA G vs ds → ds[i]? = some d → ∃ v, vs[i]? = some v ∧ Dx G v d
  | _, _, _, _, .nil, e => nomatch e
  | _, _, 0, _, .cons h _, e => by cases e; exact ⟨_, rfl, h⟩
  | _, _, i + 1, _, .cons _ a, e => DxA.get (i := i) a e
theorem DxA.getV : ∀ {vs : List V} {ds : List D} {i : Nat} {v : V}, DxA G vs ds → vs[i]? = some v → ∃ d, ds[i]? = some d ∧ Dx G v d
  | _, _, _, _, .nil, e => nomatch e
  | _, _, 0, _, .cons h _, e => by cases e; exact ⟨_, rfl, h⟩
  | _, _, i + 1, _, .cons _ a, e => DxA.getV (i := i) a e
theorem DxA.app : ∀ {vs ws : List V} {ds es : List D}, DxA G vs ds → DxA G ws es → DxA G (vs ++ ws) (ds ++ es)
  | _, _, _, _, .nil, b => b
  | _, _, _, _, .cons h a, b => .cons h (DxA.app a b)
theorem DxA.one {v : V} {d : D} (h : Dx G v d) : DxA G [v] [d] := .cons h .nil
theorem DxA.set {v : V} {d : D} (h : Dx G v d) : ∀ {vs : List V} {ds : List D} (i : Nat), DxA G vs ds → DxA G (vs.set i v) (ds.set i d)
  | _, _, _, .nil => .nil
  | _, _, 0, .cons _ a => .cons h a
  | _, _, i + 1, .cons g a => .cons g (DxA.set h i a)
theorem DxA.take : ∀ {vs : List V} {ds : List D} (n : Nat), DxA G vs ds → DxA G (vs.take n) (ds.take n)
  | _, _, 0, _ => .nil
  | _, _, n + 1, .nil => .nil
  | _, _, n + 1, .cons g a => .cons g (DxA.take n a)
theorem DxA.drop : ∀ {vs : List V} {ds : List D} (n : Nat), DxA G vs ds → DxA G (vs.drop n) (ds.drop n)
  | _, _, 0, h => h
  | _, _, n + 1, .nil => .nil
  | _, _, n + 1, .cons _ a => DxA.drop n a
theorem DxA.rev : ∀ {vs : List V} {ds : List D}, DxA G vs ds → DxA G vs.reverse ds.reverse
  | _, _, .nil => .nil
  | _, _, .cons g a => by
    rw [List.reverse_cons, List.reverse_cons]
    exact (DxA.rev a).app (.one g)
theorem DxA.rep {v : V} {d : D} (h : Dx G v d) : ∀ n, DxA G (List.replicate n v) (List.replicate n d)
  | 0 => .nil
  | n + 1 => .cons h (DxA.rep h n)
theorem DxA.strs : ∀ (zs : List Str), DxA G (zs.map V.str) (zs.map D.str)
  | [] => .nil
  | z :: zs => .cons (.str z) (DxA.strs zs)
theorem DxA.ints : ∀ (zs : List Int), DxA G (zs.map V.int) (zs.map D.int)
  | [] => .nil
  | z :: zs => .cons (.int z) (DxA.ints zs)
theorem DxA.bls : ∀ (zs : List Bool), DxA G (zs.map V.bl) (zs.map D.bl)
  | [] => .nil
  | z :: zs => .cons (.bl z) (DxA.bls zs)
theorem DxA.strs_inv : ∀ {zs : List Str} {vs : List V}, DxA G vs (zs.map D.str) → vs = zs.map V.str
  | [], _, h => by cases h; rfl
  | z :: zs, _, h => by
    cases h with
    | cons h a => cases h; rw [DxA.strs_inv a]; rfl
theorem DxA.ints_inv : ∀ {zs : List Int} {vs : List V}, DxA G vs (zs.map D.int) → vs = zs.map V.int
  | [], _, h => by cases h; rfl
  | z :: zs, _, h => by
    cases h with
    | cons h a => cases h; rw [DxA.ints_inv a]; rfl
theorem DxA.bls_inv : ∀ {zs : List Bool} {vs : List V}, DxA G vs (zs.map D.bl) → vs = zs.map V.bl
  | [], _, h => by cases h; rfl
  | z :: zs, _, h => by
    cases h with
    | cons h a => cases h; rw [DxA.bls_inv a]; rfl
theorem DxA.of : ∀ {vs : List V} {ds : List D}, vs.length = ds.length → (∀ (i : Nat) (v : V) (d : D), vs[i]? = some v → ds[i]? = some d → Dx G v d) → DxA G vs ds
  | [], [], _, _ => .nil
  | v :: vs, d :: ds, l, h => .cons (h 0 v d rfl rfl) (DxA.of (Nat.succ.inj l) fun i u e a b => h (i + 1) u e a b)
end
def kD : Key → D
  | .inl i => .int i
  | .inr z => .str z
theorem dx_key {G : Hp} (k : Key) : Dx G (kV k) (kD k) := by
  cases k with
  | inl i => exact .int i
  | inr z => exact .str z
theorem dx_key_inv {G : Hp} {k : Key} {v : V} (h : Dx G v (kD k)) : v = kV k := by
  cases k with
  | inl i => cases h; rfl
  | inr z => cases h; rfl
theorem dxA_keys {G : Hp} : ∀ (ks : List Key), DxA G (ks.map kV) (ks.map kD)
  | [] => .nil
  | k :: ks => .cons (dx_key k) (dxA_keys ks)
theorem dxA_keys_inv {G : Hp} : ∀ {ks : List Key} {vs : List V}, DxA G vs (ks.map kD) → vs = ks.map kV
  | [], _, h => by cases h; rfl
  | k :: ks, _, h => by
    cases h with
    | cons h a => rw [dx_key_inv h, dxA_keys_inv a]; rfl

/-! ### cells -/
def CellOk (G H : Hp) (a : Addr) : DO → Prop
  | .lst ds => ∃ vs, H a = some (.lst vs) ∧ DxA G vs ds
  | .dK kds => ∃ kvs : List (Key × V), H a = some (.dK kvs) ∧ kvs.map (·.1) = kds.map (·.1) ∧ DxA G (kvs.map (·.2)) (kds.map (·.2))
  | .dT kds => ∃ kvs : List (List Key × V), H a = some (.dT kvs) ∧ kvs.map (·.1) = kds.map (·.1) ∧ DxA G (kvs.map (·.2)) (kds.map (·.2))
  | .ins C fs => ∃ (dx : Addr) (ws : List (Str × V)), H a = some (.ins C dx ws) ∧ ws.map (·.1) = fs.map (·.1) ∧ DxA G (ws.map (·.2)) (fs.map (·.2))
  | .src la => Src H a la
  | .held => ∃ o, H a = some o
  | .dKl o kvs kds => H a = some (.frz o (.dK kvs)) ∧ kvs.map (·.1) = kds.map (·.1) ∧ DxA G (kvs.map (·.2)) (kds.map (·.2))
  | .clo F => CloAt G H a F
  | .cellv o d => ∃ u v, H a = some (pinO o a) ∧ o.data = .cell (some u) ∧ RelV v u ∧ Dx G v d
  | .pin o => H a = some (pinO o a)
  | .tab q => ∃ ps : Array Value, H a = some (.tbl ps) ∧ TriplesOk ps.toList ∧ ∀ pos cv, codeAmong pos ps.toList = some cv → ∃ c, cv = .ref c ∧ G c = some (LamX.CodeO c q)
structure RelH (h : Hs) (H : Hp) : Prop where
  cell : ∀ a o, h a = some o → CellOk (Fz h H) H a o
  src : ∀ a la, h a = some (.src la) → h la = some .held
theorem CellOk.at {G H : Hp} {a : Addr} {o : DO} (c : CellOk G H a o) : ∃ u, H a = some u := by
  cases o with
  | lst ds => obtain ⟨_, e, _⟩ := c; exact ⟨_, e⟩
  | dK ds => obtain ⟨_, e, _⟩ := c; exact ⟨_, e⟩
  | dT ds => obtain ⟨_, e, _⟩ := c; exact ⟨_, e⟩
  | ins C ds => obtain ⟨_, _, e, _⟩ := c; exact ⟨_, e⟩
  | src la => exact Src.at c
  | held => exact c
  | dKl o vs ds => exact ⟨_, c.1⟩
  | clo F => obtain ⟨_, _, _, _, _, e, _⟩ := c; exact ⟨_, e⟩
  | cellv o d => obtain ⟨_, _, e, _⟩ := c; exact ⟨_, e⟩
  | pin o => exact ⟨_, c⟩
  | tab q => obtain ⟨_, e, _⟩ := c; exact ⟨_, e⟩
theorem RelH.no {h : Hs} {H : Hp} (r : RelH h H) {p : Addr} (n : H p = none) : h p = none := by
  cases e : h p with
  | none => rfl
  | some o =>
    obtain ⟨u, z⟩ := (r.cell p o e).at
    rw [n] at z; cases z
theorem un_code {a : Addr} {q : Str} : un (LamX.CodeO a q) = LamX.CodeO a q := rfl
theorem keep_code {G G' : Hp} (s : SameU G G') {c : Addr} {q : Str} (e : G c = some (LamX.CodeO c q)) : G' c = some (LamX.CodeO c q) := s.keep e (fun _ z => nomatch z) (fun _ z => nomatch z)
theorem DfOk.mono {G G' : Hp} (s : SameU G G') {dn : Option Str} {dV : Value} (d : DfOk G dn dV) : DfOk G' dn dV := by
  cases dn with
  | none => exact d
  | some n =>
    obtain ⟨t, e, h⟩ := d
    exact ⟨t, e, s.keep h (fun _ z => nomatch z) (fun _ z => nomatch z)⟩
/-- what a cell says, where its place and what does not change stand -/
theorem CellOk.mono {G G' H H' : Hp} {a : Addr} {o : DO} (c : CellOk G H a o) (s : SameU G G') (e : H' a = H a) (hs : ∀ la, o = .src la → H' la = H la) : CellOk G' H' a o := by
  cases o with
  | lst ds => obtain ⟨vs, h1, h2⟩ := c; exact ⟨vs, e.trans h1, h2.monoU s⟩
  | dK ds => obtain ⟨vs, h1, h2, h3⟩ := c; exact ⟨vs, e.trans h1, h2, h3.monoU s⟩
  | dT ds => obtain ⟨vs, h1, h2, h3⟩ := c; exact ⟨vs, e.trans h1, h2, h3.monoU s⟩
  | ins C ds => obtain ⟨dx, vs, h1, h2, h3⟩ := c; exact ⟨dx, vs, e.trans h1, h2, h3.monoU s⟩
  | src la =>
    obtain ⟨ne, ns, pos, rest, st, n, h1, h2, r⟩ := c
    exact ⟨ne, ns, pos, rest, st, n, e.trans h1, (hs la rfl).trans h2, r⟩
  | held => obtain ⟨u, z⟩ := c; exact ⟨u, e.trans z⟩
  | dKl o vs ds => obtain ⟨h1, h2, h3⟩ := c; exact ⟨e.trans h1, h2, h3.monoU s⟩
  | clo F => obtain ⟨dV, doc, pm, c', ct, h1, h2, h3⟩ := c; exact ⟨dV, doc, pm, c', ct, e.trans h1, keep_code s h2, h3.mono s⟩
  | cellv o d => obtain ⟨u, v, h1, h2, h3, h4⟩ := c; exact ⟨u, v, e.trans h1, h2, h3, h4.monoU s⟩
  | pin o => exact e.trans c
  | tab q =>
    obtain ⟨ps, h1, h2, h3⟩ := c
    refine ⟨ps, e.trans h1, h2, fun pos cv z => ?_⟩
    obtain ⟨c', e1, e2⟩ := h3 pos cv z
    exact ⟨c', e1, keep_code s e2⟩
section
variable {h : Hs} {H : Hp} {p : Addr} {o : HO} {c : DO}
/-- something new that stays as it is -/
theorem fz_new (r : RelH h H) (n : H p = none) : Fz h (upd H p o) = upd (Fz h H) p o := by
  have z := r.no n
  funext b
  by_cases e : b = p
  · subst e; rw [upd_same, fz_out z, upd_same]
  · rw [upd_ne e]
    unfold Fz
    rw [upd_ne e]
theorem fz_none (n : H p = none) : Fz h H p = none := by
  cases e : h p with
  | none => rw [fz_out e]; exact n
  | some u => exact fz_in e
theorem RelH.newF (r : RelH h H) (n : H p = none) : RelH h (upd H p o) ∧ Same (Fz h H) (Fz h (upd H p o)) := by
  have s : Same (Fz h H) (Fz h (upd H p o)) := by rw [fz_new r n]; exact Same.new (fz_none n)
  refine ⟨⟨fun a u e => ?_, r.src⟩, s⟩
  have hne : ∀ b, (∃ v, H b = some v) → b ≠ p := fun b ⟨v, z⟩ => ne_of_none z n
  refine (r.cell a u e).mono (sameU s) (upd_ne (hne a (r.cell a u e).at)) fun la q => ?_
  subst q
  exact upd_ne (hne la (r.cell la _ (r.src a la e)).at)
theorem fz_seth {h : Hs} {H : Hp} {p : Addr} {o : HO} {c : DO} : Fz (seth h p c) (upd H p o) = fun b => if b = p then none else Fz h H b := by
  funext b
  by_cases e : b = p
  · subst e; rw [if_pos rfl, fz_in seth_same]
  · rw [if_neg e]; unfold Fz; rw [seth_ne e, upd_ne e]
/-- a new cell -/
theorem RelH.newC (r : RelH h H) (n : H p = none) (k : CellOk (Fz h H) (upd H p o) p c) (ns : ∀ la, c ≠ .src la) : RelH (seth h p c) (upd H p o) ∧ Same (Fz h H) (Fz (seth h p c) (upd H p o)) := by
  have s : Same (Fz h H) (Fz (seth h p c) (upd H p o)) := fun b u e => by
    have ne := ne_of_none e (fz_none (h := h) n)
    rw [fz_seth]; show (if b = p then none else Fz h H b) = _; rw [if_neg ne]; exact e
  refine ⟨⟨fun a u e => ?_, fun a la e => ?_⟩, s⟩
  · by_cases ea : a = p
    · subst ea
      rw [seth_same] at e
      cases e
      exact k.mono (sameU s) rfl fun la q => absurd q (ns la)
    · rw [seth_ne ea] at e
      refine (r.cell a u e).mono (sameU s) (upd_ne ea) fun la q => ?_
      subst q
      obtain ⟨v, z⟩ := (r.cell la _ (r.src a la e)).at
      exact upd_ne (ne_of_none z n)
  · by_cases ea : a = p
    · subst ea
      rw [seth_same] at e
      exact absurd (Option.some.inj e) (ns la)
    · rw [seth_ne ea] at e
      have z := r.src a la e
      rw [seth_ne]
      · exact z
      · rintro rfl
        rw [r.no n] at z; cases z
/-- a cell written -/
theorem RelH.write {c0 : DO} (r : RelH h H) (e0 : h p = some c0) (n0 : ∀ la, c0 ≠ .src la) (n1 : c0 ≠ .held) (k : CellOk (Fz h H) (upd H p o) p c) (ns : ∀ la, c ≠ .src la) :
    RelH (seth h p c) (upd H p o) ∧ Same (Fz h H) (Fz (seth h p c) (upd H p o)) := by
  have s : Same (Fz h H) (Fz (seth h p c) (upd H p o)) := fun b u e => by
    have ne : b ≠ p := by
      rintro rfl
      rw [fz_in e0] at e; cases e
    rw [fz_seth]; show (if b = p then none else Fz h H b) = _; rw [if_neg ne]; exact e
  refine ⟨⟨fun a u e => ?_, fun a la e => ?_⟩, s⟩
  · by_cases ea : a = p
    · subst ea
      rw [seth_same] at e
      cases e
      exact k.mono (sameU s) rfl fun la q => absurd q (ns la)
    · rw [seth_ne ea] at e
      refine (r.cell a u e).mono (sameU s) (upd_ne ea) fun la q => ?_
      subst q
      refine upd_ne ?_
      rintro rfl
      have z := r.src a _ e
      rw [e0] at z
      exact n1 (Option.some.inj z)
  · by_cases ea : a = p
    · subst ea
      rw [seth_same] at e
      exact absurd (Option.some.inj e) (ns la)
    · rw [seth_ne ea] at e
      have z := r.src a la e
      rw [seth_ne]
      · exact z
      · rintro rfl
        rw [e0] at z
        exact n1 (Option.some.inj z)
/-- a cell that will change no more -/
theorem fz_del {h : Hs} {H : Hp} {p : Addr} : Same (Fz h H) (Fz (delh h p) H) := fun b u e => by
  obtain ⟨n, z⟩ := fz_some e
  have : delh h p b = none := by
    by_cases q : b = p
    · subst q; exact delh_same
    · rw [delh_ne q]; exact n
  rw [fz_out this]; exact z
theorem RelH.del {c0 : DO} (r : RelH h H) (e0 : h p = some c0) (n0 : ∀ la, c0 ≠ .src la) (n1 : c0 ≠ .held) : RelH (delh h p) H := by
  refine ⟨fun a u e => ?_, fun a la e => ?_⟩
  · have ea : a ≠ p := by
      rintro rfl
      rw [delh_same] at e; cases e
    rw [delh_ne ea] at e
    exact (r.cell a u e).mono (sameU fz_del) rfl fun _ _ => rfl
  · have ea : a ≠ p := by
      rintro rfl
      rw [delh_same] at e; cases e
    rw [delh_ne ea] at e
    have z := r.src a la e
    rw [delh_ne]
    · exact z
    · rintro rfl
      rw [e0] at z
      exact n1 (Option.some.inj z)
end
mutual
/-- what a cell holds becomes data -/
inductive Frz : Hs → D → D → Hs → Prop
  | id {h : Hs} {d : D} : Frz h d d h
  | lst {h h' : Hs} {p : Addr} {ds es : List D} : h p = some (.lst ds) → FrzA (delh h p) ds es h' → Frz h (.ref p) (.lst es) h'
  | dK {h h' : Hs} {p : Addr} {kds kes : List (Key × D)} : h p = some (.dK kds) → kes.map (·.1) = kds.map (·.1) → FrzA (delh h p) (kds.map (·.2)) (kes.map (·.2)) h' → Frz h (.ref p) (.dK kes) h'
  | dT {h h' : Hs} {p : Addr} {kds kes : List (List Key × D)} : h p = some (.dT kds) → kes.map (·.1) = kds.map (·.1) → FrzA (delh h p) (kds.map (·.2)) (kes.map (·.2)) h' → Frz h (.ref p) (.dT kes) h'
  | ins {h h' : Hs} {p C : Addr} {kds kes : List (Str × D)} : h p = some (.ins C kds) → kes.map (·.1) = kds.map (·.1) → FrzA (delh h p) (kds.map (·.2)) (kes.map (·.2)) h' → Frz h (.ref p) (.ins C kes) h'
inductive FrzA : Hs → List D → List D → Hs → Prop
  | id {h : Hs} {ds : List D} : FrzA h ds ds h
  | cons {h h1 h2 : Hs} {d e : D} {ds es : List D} : Frz h d e h1 → FrzA h1 ds es h2 → FrzA h (d :: ds) (e :: es) h2
end
mutual
theorem Frz.ok : ∀ {h h' : Hs} {d e : D} {H : Hp} {v : V}, Frz h d e h' → RelH h H → Dx (Fz h H) v d → RelH h' H ∧ Same (Fz h H) (Fz h' H) ∧ Dx (Fz h' H) v e
  | _, _, _, _, _, _, .id, r, x => ⟨r, Same.refl _, x⟩
  | _, _, _, _, H, v, .lst (p := p) e0 a, r, x => by
    cases x
    obtain ⟨vs, h1, h2⟩ := r.cell _ _ e0
    obtain ⟨r', s', x'⟩ := FrzA.ok (H := H) a (r.del e0 (fun _ q => nomatch q) (fun q => nomatch q)) (h2.mono fz_del)
    exact ⟨r', fz_del.trans s', .lst (s' _ _ (by rw [fz_out delh_same]; exact h1)) x'⟩
  | _, _, _, _, H, v, .dK (p := p) e0 ek a, r, x => by
    cases x
    obtain ⟨vs, h1, hk, h2⟩ := r.cell _ _ e0
    obtain ⟨r', s', x'⟩ := FrzA.ok (H := H) a (r.del e0 (fun _ q => nomatch q) (fun q => nomatch q)) (h2.mono fz_del)
    exact ⟨r', fz_del.trans s', .dK (s' _ _ (by rw [fz_out delh_same]; exact h1)) rfl (hk.trans ek.symm) x'⟩
  | _, _, _, _, H, v, .dT (p := p) e0 ek a, r, x => by
    cases x
    obtain ⟨vs, h1, hk, h2⟩ := r.cell _ _ e0
    obtain ⟨r', s', x'⟩ := FrzA.ok (H := H) a (r.del e0 (fun _ q => nomatch q) (fun q => nomatch q)) (h2.mono fz_del)
    exact ⟨r', fz_del.trans s', .dT (s' _ _ (by rw [fz_out delh_same]; exact h1)) rfl (hk.trans ek.symm) x'⟩
  | _, _, _, _, H, v, .ins (p := p) e0 ek a, r, x => by
    cases x
    obtain ⟨dx, vs, h1, hk, h2⟩ := r.cell _ _ e0
    obtain ⟨r', s', x'⟩ := FrzA.ok (H := H) a (r.del e0 (fun _ q => nomatch q) (fun q => nomatch q)) (h2.mono fz_del)
    exact ⟨r', fz_del.trans s', .ins (s' _ _ (by rw [fz_out delh_same]; exact h1)) (hk.trans ek.symm) x'⟩
theorem FrzA.ok : ∀ {h h' : Hs} {d e : List D} {H : Hp} {v : List V}, FrzA h d e h' → RelH h H → DxA (Fz h H) v d → RelH h' H ∧ Same (Fz h H) (Fz h' H) ∧ DxA (Fz h' H) v e
  | _, _, _, _, _, _, .id, r, x => ⟨r, Same.refl _, x⟩
  | _, _, _, _, H, _, .cons a b, r, x => by
    cases x with
    | cons x xs =>
      obtain ⟨r1, s1, x1⟩ := Frz.ok (H := H) a r x
      obtain ⟨r2, s2, x2⟩ := FrzA.ok (H := H) b r1 (xs.mono s1)
      exact ⟨r2, s1.trans s2, .cons (x1.mono s2) x2⟩
end
end GX

set_option Elab.async false
set_option linter.all false
set_option maxRecDepth 100000
set_option maxHeartbeats 4000000
namespace GX
open PySem L2 PySem.Spec
abbrev Rho := List (Option D)
abbrev QD := D → Hs → Prop
structure Rel (ρ : Rho) (h : Hs) (σ : L2.St) (H : Hp) : Prop where
  rh : RelH h H
  len : ρ.length = σ.length
  sl : ∀ (i : Nat) (d : D), ρ[i]? = some (some d) → ∃ v, σ[i]? = some (some v) ∧ Dx (Fz h H) v d
abbrev Sm (h : Hs) (H : Hp) (h' : Hs) (H' : Hp) : Prop := Same (Fz h H) (Fz h' H')
def Post (h : Hs) (H : Hp) (Q : QD) (Q' : VK) : Prop := ∀ d h' v H', Q d h' → Dx (Fz h' H') v d → RelH h' H' → Sm h H h' H' → Q' v H'
def PostB (h : Hs) (H : Hp) (R : Bool → Hs → Prop) (R' : Bool → Hp → Prop) : Prop := ∀ b h' H', R b h' → RelH h' H' → Sm h H h' H' → R' b H'
def PostA (h : Hs) (H : Hp) (R : List D → Hs → Prop) (R' : List V → Hp → Prop) : Prop := ∀ ds h' vs H', R ds h' → DxA (Fz h' H') vs ds → RelH h' H' → Sm h H h' H' → R' vs H'
def PostS (h : Hs) (H : Hp) (N : Rho → Hs → Prop) (N' : L2.St → Hp → Prop) : Prop := ∀ ρ' h' σ' H', N ρ' h' → Rel ρ' h' σ' H' → Sm h H h' H' → N' σ' H'
structure DEnds where
  nx : Rho → Hs → Prop
  rt : QD
  bk : Rho → Hs → Prop
  ct : Rho → Hs → Prop
structure PostE (h : Hs) (H : Hp) (E : DEnds) (E' : Ends) : Prop where
  nx : PostS h H E.nx E'.nx
  rt : Post h H E.rt E'.rt
  bk : PostS h H E.bk E'.bk
  ct : PostS h H E.ct E'.ct
def dE (t : TE) (ρ : Rho) (h : Hs) (Q : QD) : Prop := ∀ σ H Q', Rel ρ h σ H → Post h H Q Q' → t σ H Q'
def dT (t : TT) (ρ : Rho) (h : Hs) (R : Bool → Hs → Prop) : Prop := ∀ σ H R', Rel ρ h σ H → PostB h H R R' → t σ H R'
def dA (t : TA) (ρ : Rho) (h : Hs) (R : List D → Hs → Prop) : Prop := ∀ σ H R', Rel ρ h σ H → PostA h H R R' → t σ H R'
def dS (t : TS) (E : DEnds) (ρ : Rho) (h : Hs) : Prop := ∀ σ H E', Rel ρ h σ H → PostE h H E E' → t E' σ H
/-- a target; W: the slots that it may set -/
def dG (W : List Nat) (g : TG) (x : D) (ρ : Rho) (h : Hs) (N : Rho → Hs → Prop) : Prop := ∀ σ H v (N' : L2.St → Hp → Prop), Rel ρ h σ H → Dx (Fz h H) v x →
  (∀ ρ' h' σ' H', N ρ' h' → Rel ρ' h' σ' H' → Sm h H h' H' → σ'.length = σ.length → (∀ i, i ∉ W → σ'[i]? = σ[i]?) → N' σ' H') → g v σ H N'
def dGs (W : List Nat) (g : TGs) (xs : List D) (ρ : Rho) (h : Hs) (N : Rho → Hs → Prop) : Prop := ∀ σ H vs (N' : L2.St → Hp → Prop), Rel ρ h σ H → DxA (Fz h H) vs xs →
  (∀ ρ' h' σ' H', N ρ' h' → Rel ρ' h' σ' H' → Sm h H h' H' → σ'.length = σ.length → (∀ i, i ∉ W → σ'[i]? = σ[i]?) → N' σ' H') → g vs σ H N'
/-- by values -/
def dR (r : V → Hp → VK → Prop) (x : D) (h : Hs) (Q : QD) : Prop := ∀ v H Q', RelH h H → Dx (Fz h H) v x → Post h H Q Q' → r v H Q'
def dR2 (r : R2) (x y : D) (h : Hs) (Q : QD) : Prop := ∀ v w H Q', RelH h H → Dx (Fz h H) v x → Dx (Fz h H) w y → Post h H Q Q' → r v w H Q'
def dRA (r : List V → Hp → VK → Prop) (xs : List D) (h : Hs) (Q : QD) : Prop := ∀ vs H Q', RelH h H → DxA (Fz h H) vs xs → Post h H Q Q' → r vs H Q'
def dRM (r : V → List V → Hp → VK → Prop) (x : D) (xs : List D) (h : Hs) (Q : QD) : Prop := ∀ v vs H Q', RelH h H → Dx (Fz h H) v x → DxA (Fz h H) vs xs → Post h H Q Q' → r v vs H Q'
section
variable {ρ ρ' : Rho} {h h1 h' : Hs} {σ : L2.St} {H H1 H' : Hp}
theorem Rel.step (r : Rel ρ h σ H) (rh : RelH h1 H1) (s : Sm h H h1 H1) : Rel ρ h1 σ H1 :=
  ⟨rh, r.len, fun i d e => let ⟨v, e1, x⟩ := r.sl i d e; ⟨v, e1, x.mono s⟩⟩
theorem Rel.set (r : Rel ρ h σ H) {v : V} {d : D} (x : Dx (Fz h H) v d) (n : Nat) : Rel (ρ.set n (some d)) h (σ.set n (some v)) H := by
  refine ⟨r.rh, by rw [List.length_set, List.length_set, r.len], fun i e hi => ?_⟩
  by_cases q : n = i
  · subst q
    have hl : n < ρ.length := by
      have := (List.getElem?_eq_some_iff.mp hi).1
      rwa [List.length_set] at this
    rw [List.getElem?_set_self hl] at hi
    cases hi
    exact ⟨v, List.getElem?_set_self (by rw [← r.len]; exact hl), x⟩
  · rw [List.getElem?_set_ne q] at hi
    obtain ⟨w, e1, y⟩ := r.sl i e hi
    exact ⟨w, by rw [List.getElem?_set_ne q]; exact e1, y⟩
theorem Post.step {Q : QD} {Q' : VK} (p : Post h H Q Q') (s : Sm h H h1 H1) : Post h1 H1 Q Q' := fun d h' v H' q x r s' => p d h' v H' q x r (s.trans s')
theorem PostB.step {Q : Bool → Hs → Prop} {Q'} (p : PostB h H Q Q') (s : Sm h H h1 H1) : PostB h1 H1 Q Q' := fun d h' H' q r s' => p d h' H' q r (s.trans s')
theorem PostA.step {Q : List D → Hs → Prop} {Q'} (p : PostA h H Q Q') (s : Sm h H h1 H1) : PostA h1 H1 Q Q' := fun d h' v H' q x r s' => p d h' v H' q x r (s.trans s')
theorem PostS.step {Q : Rho → Hs → Prop} {Q'} (p : PostS h H Q Q') (s : Sm h H h1 H1) : PostS h1 H1 Q Q' := fun d h' v H' q r s' => p d h' v H' q r (s.trans s')
theorem PostE.step {E : DEnds} {E'} (p : PostE h H E E') (s : Sm h H h1 H1) : PostE h1 H1 E E' := ⟨p.nx.step s, p.rt.step s, p.bk.step s, p.ct.step s⟩
/-- forgetting slots -/
theorem Rel.weak (r : Rel ρ h σ H) (l : ρ'.length = ρ.length) (w : ∀ (i : Nat) d, ρ'[i]? = some (some d) → ρ[i]? = some (some d)) : Rel ρ' h σ H :=
  ⟨r.rh, l.trans r.len, fun i d e => r.sl i d (w i d e)⟩
end
section
variable {ρ : Rho} {h : Hs} {Q : QD} {ta tb tc te : TE} {t u : TS} {c d : TT} {x y : D} {E : DEnds} {R : Bool → Hs → Prop} {n : Nat} {a : TA}
/-! ### expressions -/
theorem d_var (e : ρ[n]? = some (some x)) (q : Q x h) : dE (tVar n) ρ h Q := fun σ H Q' r p =>
  let ⟨v, e1, d⟩ := r.sl n x e; ⟨v, e1, p x h v H q d r.rh (Same.refl _)⟩
theorem d_c {v : V} (hv : ∀ G, Dx G v x) (q : Q x h) : dE (tC v) ρ h Q := fun σ H Q' r p => p x h v H q (hv _) r.rh (Same.refl _)
theorem d_cInt {i : Int} (q : Q (.int i) h) : dE (tC (.int i)) ρ h Q := d_c (fun _ => .int i) q
theorem d_cBl {i : Bool} (q : Q (.bl i) h) : dE (tC (.bl i)) ρ h Q := d_c (fun _ => .bl i) q
theorem d_cStr {i : Str} (q : Q (.str i) h) : dE (tC (.str i)) ρ h Q := d_c (fun _ => .str i) q
theorem d_cNon (q : Q .non h) : dE (tC .non) ρ h Q := d_c (fun _ => .non) q
theorem d_op {r : R2} (z : dE ta ρ h fun x h1 => dE tb ρ h1 fun y h2 => dR2 r x y h2 Q) : dE (tOp r ta tb) ρ h Q := fun σ H Q' rl p =>
  z σ H _ rl fun x h1 v H1 q dx rh s => q σ H1 _ (rl.step rh s) fun y h2 w H2 q2 dy rh2 s2 => q2 v w H2 Q' rh2 (dx.mono s2) dy (p.step (s.trans s2))
theorem d_un {r : V → Hp → VK → Prop} (z : dE ta ρ h fun x h1 => dR r x h1 Q) : dE (tUn r ta) ρ h Q := fun σ H Q' rl p =>
  z σ H _ rl fun x h1 v H1 q dx rh s => q v H1 Q' rh dx (p.step s)
theorem d_test (z : dE te ρ h fun x h1 => ∃ k, x = .bl k ∧ R k h1) : dT (tTest te) ρ h R := fun σ H R' rl p =>
  z σ H _ rl fun x h1 v H1 q dx rh s => by obtain ⟨k, rfl, q⟩ := q; cases dx; exact ⟨k, rfl, p k h1 H1 q rh s⟩
theorem d_B (z : dE te ρ h fun x h1 => ∃ k, x = .bl k ∧ R k h1) : dT (tB te) ρ h R := fun σ H R' rl p =>
  z σ H _ rl fun x h1 v H1 q dx rh s => by obtain ⟨k, rfl, q⟩ := q; cases dx; exact ⟨k, rfl, p k h1 H1 q rh s⟩
theorem d_bl {S : Bool → Prop} {b : Bool} (q : S b) : ∃ k, D.bl b = .bl k ∧ S k := ⟨b, rfl, q⟩
theorem d_and (z : dT c ρ h fun b h1 => if b = true then dT d ρ h1 R else R false h1) : dT (tAnd c d) ρ h R := fun σ H R' rl p =>
  z σ H _ rl fun b h1 H1 q rh s => by
    cases b with
    | true => exact q σ H1 R' (rl.step rh s) (p.step s)
    | false => exact p false h1 H1 q rh s
theorem d_or (z : dT c ρ h fun b h1 => if b = true then R true h1 else dT d ρ h1 R) : dT (tOr c d) ρ h R := fun σ H R' rl p =>
  z σ H _ rl fun b h1 H1 q rh s => by
    cases b with
    | false => exact q σ H1 R' (rl.step rh s) (p.step s)
    | true => exact p true h1 H1 q rh s
theorem d_not (z : dT c ρ h fun b h1 => R (!b) h1) : dT (tNot c) ρ h R := fun σ H R' rl p =>
  z σ H _ rl fun b h1 H1 q rh s => p (!b) h1 H1 q rh s
theorem d_yes (z : R true h) : dT tYes ρ h R := fun σ H R' rl p => p true h H z rl.rh (Same.refl _)
theorem d_if (z : dT c ρ h fun b h1 => if b = true then dE ta ρ h1 Q else dE tb ρ h1 Q) : dE (tIf c ta tb) ρ h Q := fun σ H Q' rl p =>
  z σ H _ rl fun b h1 H1 q rh s => by
    cases b with
    | true => exact q σ H1 Q' (rl.step rh s) (p.step s)
    | false => exact q σ H1 Q' (rl.step rh s) (p.step s)
theorem d_andV (z : dE ta ρ h fun x h1 => ∃ k, x = .bl k ∧ if k = true then dE tb ρ h1 Q else Q (.bl false) h1) : dE (tAndV ta tb) ρ h Q := fun σ H Q' rl p =>
  z σ H _ rl fun x h1 v H1 q dx rh s => by
    obtain ⟨k, rfl, q⟩ := q
    cases dx
    refine ⟨k, rfl, ?_⟩
    cases k with
    | true => exact q σ H1 Q' (rl.step rh s) (p.step s)
    | false => exact p _ h1 _ H1 q (.bl false) rh s
theorem d_orV (z : dE ta ρ h fun x h1 => ∃ k, x = .bl k ∧ if k = true then Q (.bl true) h1 else dE tb ρ h1 Q) : dE (tOrV ta tb) ρ h Q := fun σ H Q' rl p =>
  z σ H _ rl fun x h1 v H1 q dx rh s => by
    obtain ⟨k, rfl, q⟩ := q
    cases dx
    refine ⟨k, rfl, ?_⟩
    cases k with
    | false => exact q σ H1 Q' (rl.step rh s) (p.step s)
    | true => exact p _ h1 _ H1 q (.bl true) rh s
theorem d_notV (z : dE ta ρ h fun x h1 => ∃ k, x = .bl k ∧ Q (.bl (!k)) h1) : dE (tNotV ta) ρ h Q := fun σ H Q' rl p =>
  z σ H _ rl fun x h1 v H1 q dx rh s => by
    obtain ⟨k, rfl, q⟩ := q
    cases dx
    exact ⟨k, rfl, p _ h1 _ H1 q (.bl _) rh s⟩
theorem d_chain {r r' : R2} (z : dE ta ρ h fun x h1 => dE tb ρ h1 fun y h2 => dR2 r x y h2 fun z h3 => ∃ k, z = .bl k ∧ if k = true then dE tc ρ h3 fun w h4 => dR2 r' y w h4 Q else Q (.bl false) h3) :
    dE (tChain r r' ta tb tc) ρ h Q := fun σ H Q' rl p =>
  z σ H _ rl fun x h1 v H1 q dx rh s => q σ H1 _ (rl.step rh s) fun y h2 w H2 q2 dy rh2 s2 => q2 v w H2 _ rh2 (dx.mono s2) dy fun zz h3 u H3 q3 dz rh3 s3 => by
    obtain ⟨k, rfl, q3⟩ := q3
    cases dz
    refine ⟨k, rfl, ?_⟩
    have s' := s.trans (s2.trans s3)
    cases k with
    | true => exact q3 σ H3 _ (rl.step rh3 s') fun w' h4 w2 H4 q4 dw rh4 s4 => q4 w w2 H4 Q' rh4 (dy.mono (s3.trans s4)) dw (p.step (s'.trans s4))
    | false => exact p _ h3 _ H3 q3 (.bl false) rh3 s'
theorem d_nil {S : List D → Hs → Prop} (z : S [] h) : dA tNil ρ h S := fun σ H R' rl p => p [] h [] H z .nil rl.rh (Same.refl _)
theorem d_cons {tr : TA} {S : List D → Hs → Prop} (z : dE ta ρ h fun x h1 => dA tr ρ h1 fun xs h2 => S (x :: xs) h2) : dA (tCons ta tr) ρ h S := fun σ H R' rl p =>
  z σ H _ rl fun x h1 v H1 q dx rh s => q σ H1 _ (rl.step rh s) fun xs h2 vs H2 q2 dxs rh2 s2 => p (x :: xs) h2 (v :: vs) H2 q2 (.cons (dx.mono s2) dxs) rh2 (s.trans s2)
theorem d_CB {r : List V → Hp → VK → Prop} (z : dA a ρ h fun xs h1 => dRA r xs h1 Q) : dE (tCB r a) ρ h Q := fun σ H Q' rl p =>
  z σ H _ rl fun xs h1 vs H1 q dx rh s => q vs H1 Q' rh dx (p.step s)
theorem d_tup (z : dA a ρ h fun xs h1 => xs.length ≤ 1000000 ∧ Q (.tup xs) h1) : dE (tTup a) ρ h Q := fun σ H Q' rl p =>
  z σ H _ rl fun xs h1 vs H1 q dx rh s => by
    refine ⟨Nat.le_trans (by rw [dx.len]; exact q.1) (by decide), fun q0 np => ?_⟩
    obtain ⟨r1, s1⟩ := rh.newF (o := .tup vs) np
    exact p _ h1 _ _ q.2 (.tup (by rw [fz_new rh np, upd_same]) (dx.mono s1)) r1 (s.trans s1)
theorem d_lst (z : dA a ρ h fun xs h1 => xs.length ≤ 1000000 ∧ Q (.lst xs) h1) : dE (tLst a) ρ h Q := fun σ H Q' rl p =>
  z σ H _ rl fun xs h1 vs H1 q dx rh s => by
    refine ⟨Nat.le_trans (by rw [dx.len]; exact q.1) (by decide), fun q0 np => ?_⟩
    obtain ⟨r1, s1⟩ := rh.newF (o := .lst vs) np
    exact p _ h1 _ _ q.2 (.lst (by rw [fz_new rh np, upd_same]) (dx.mono s1)) r1 (s.trans s1)
/-- .. a cell -/
theorem d_lstC (z : dA a ρ h fun xs h1 => xs.length ≤ 1000000 ∧ ∀ p, h1 p = none → Q (.ref p) (seth h1 p (.lst xs))) : dE (tLst a) ρ h Q := fun σ H Q' rl p =>
  z σ H _ rl fun xs h1 vs H1 q dx rh s => by
    refine ⟨Nat.le_trans (by rw [dx.len]; exact q.1) (by decide), fun q0 np => ?_⟩
    obtain ⟨r1, s1⟩ := rh.newC (c := .lst xs) np ⟨vs, upd_same, dx⟩ (fun _ e => nomatch e)
    exact p _ _ _ _ (q.2 q0 (rh.no np)) (.ref _) r1 (s.trans s1)
theorem d_frz (z : dE te ρ h fun x h1 => ∃ y h2, Frz h1 x y h2 ∧ Q y h2) : dE te ρ h Q := fun σ H Q' rl p =>
  z σ H _ rl fun x h1 v H1 q dx rh s => by
    obtain ⟨y, h2, f, q⟩ := q
    obtain ⟨r2, s2, x2⟩ := f.ok rh dx
    exact p y h2 v H1 q x2 r2 (s.trans s2)
theorem dE.mono {Q2 : QD} (z : dE te ρ h Q) (k : ∀ x h1, Q x h1 → Q2 x h1) : dE te ρ h Q2 := fun σ H Q' rl p =>
  z σ H _ rl fun x h1 v H1 q dx rh s => p x h1 v H1 (k x h1 q) dx rh s
theorem dE.slots {ρ' : Rho} (z : dE te ρ' h Q) (l : ρ'.length = ρ.length) (w : ∀ (i : Nat) d, ρ'[i]? = some (some d) → ρ[i]? = some (some d)) : dE te ρ h Q := fun σ H Q' rl p => z σ H Q' (rl.weak l w) p
/-! ### statements -/
theorem d_seq (z : dS t { E with nx := fun ρ h => dS u E ρ h } ρ h) : dS (tSeq t u) E ρ h := fun σ H E' rl p =>
  z σ H _ rl ⟨fun ρ' h' σ' H' q r s => q σ' H' E' r (p.step s), p.rt, p.bk, p.ct⟩
theorem d_next (z : E.nx ρ h) : dS tNext E ρ h := fun σ H E' rl p => p.nx ρ h σ H z rl (Same.refl _)
theorem d_break (z : E.bk ρ h) : dS tBreak E ρ h := fun σ H E' rl p => p.bk ρ h σ H z rl (Same.refl _)
theorem d_cont (z : E.ct ρ h) : dS tCont E ρ h := fun σ H E' rl p => p.ct ρ h σ H z rl (Same.refl _)
theorem d_drop (z : dE te ρ h fun _ h1 => E.nx ρ h1) : dS (tDrop te) E ρ h := fun σ H E' rl p =>
  z σ H _ rl fun x h1 v H1 q dx rh s => p.nx ρ h1 σ H1 q (rl.step rh s) s
theorem d_ret (z : dE te ρ h E.rt) : dS (tRet te) E ρ h := fun σ H E' rl p => z σ H _ rl p.rt
theorem d_retN (z : E.rt .non h) : dS tRetN E ρ h := fun σ H E' rl p => p.rt .non h .non H z .non rl.rh (Same.refl _)
theorem d_ifS (z : dT c ρ h fun b h1 => if b = true then dS t E ρ h1 else dS u E ρ h1) : dS (tIfS c t u) E ρ h := fun σ H E' rl p =>
  z σ H _ rl fun b h1 H1 q rh s => by
    cases b with
    | true => exact q σ H1 E' (rl.step rh s) (p.step s)
    | false => exact q σ H1 E' (rl.step rh s) (p.step s)
theorem d_asg {g : TG} (z : dE te ρ h fun x h1 => ∃ W, dG W g x ρ h1 E.nx) : dS (tAsg te g) E ρ h := fun σ H E' rl p =>
  z σ H _ rl fun x h1 v H1 q dx rh s => by
    obtain ⟨W, q⟩ := q
    exact q σ H1 v _ (rl.step rh s) dx fun ρ' h' σ' H' q2 r2 s2 _ _ => p.nx ρ' h' σ' H' q2 r2 (s.trans s2)
theorem d_par {i j : Nat} (z : dA a ρ h fun xs h1 => ∃ x y, xs = [x, y] ∧ E.nx ((ρ.set i (some x)).set j (some y)) h1) : dS (tPar i j a) E ρ h := fun σ H E' rl p =>
  z σ H _ rl fun xs h1 vs H1 q dx rh s => by
    obtain ⟨x, y, rfl, q⟩ := q
    cases dx with
    | cons d1 dx =>
      cases dx with
      | cons d2 dx =>
        cases dx
        exact ⟨_, _, rfl, p.nx _ h1 _ H1 q (((rl.step rh s).set d1 i).set d2 j) s⟩
theorem d_pr {S : D → D → Prop} {x y : D} (q : S x y) : ∃ v w, [x, y] = [v, w] ∧ S v w := ⟨x, y, rfl, q⟩
theorem d_aug {i : Nat} {ti : TIp} (e : ρ[i]? = some (some x)) (z : dE te ρ h fun y h1 => dR2 ti x y h1 fun z h2 => E.nx (ρ.set i (some z)) h2) : dS (tAug i te ti) E ρ h := fun σ H E' rl p => by
  obtain ⟨v, ev, dx⟩ := rl.sl i x e
  refine ⟨v, ev, z σ H _ rl fun y h1 w H1 q dy rh s => q v w H1 _ rh (dx.mono s) dy fun zz h2 u H2 q2 dz rh2 s2 => ?_⟩
  exact p.nx _ h2 _ H2 q2 ((rl.step rh2 (s.trans s2)).set dz i) (s.trans s2)
/-- cells become data, seen at a slot -/
theorem dS_frz {i : Nat} {h' : Hs} (e : ρ[i]? = some (some x)) (f : Frz h x y h') (z : dS t E (ρ.set i (some y)) h') : dS t E ρ h := fun σ H E' rl p => by
  obtain ⟨v, ev, dx⟩ := rl.sl i x e
  obtain ⟨r2, s2, x2⟩ := f.ok rl.rh dx
  have r := (rl.step r2 s2).set x2 i
  have : σ.set i (some v) = σ := List.ext_getElem? fun j => by
    by_cases q : i = j
    · subst q
      rw [List.getElem?_set_self (List.getElem?_eq_some_iff.mp ev).1, ev]
    · rw [List.getElem?_set_ne q]
  rw [this] at r
  exact z σ H E' r (p.step s2)
theorem dS.slots {ρ' : Rho} (z : dS t E ρ' h) (l : ρ'.length = ρ.length) (w : ∀ (i : Nat) d, ρ'[i]? = some (some d) → ρ[i]? = some (some d)) : dS t E ρ h := fun σ H E' rl p => z σ H E' (rl.weak l w) p
theorem dS.mono {E2 : DEnds} (z : dS t E ρ h) (k1 : ∀ ρ h, E.nx ρ h → E2.nx ρ h) (k2 : ∀ x h, E.rt x h → E2.rt x h) (k3 : ∀ ρ h, E.bk ρ h → E2.bk ρ h) (k4 : ∀ ρ h, E.ct ρ h → E2.ct ρ h) : dS t E2 ρ h := fun σ H E' rl p =>
  z σ H E' rl ⟨fun ρ' h' σ' H' q r s => p.nx ρ' h' σ' H' (k1 _ _ q) r s, fun d h' v H' q x r s => p.rt d h' v H' (k2 _ _ q) x r s, fun ρ' h' σ' H' q r s => p.bk ρ' h' σ' H' (k3 _ _ q) r s, fun ρ' h' σ' H' q r s => p.ct ρ' h' σ' H' (k4 _ _ q) r s⟩
/-- where ways meet: what holds there, with cells made data -/
theorem d_meet (M : Rho → Hs → Prop) (z : dS t { E with nx := M } ρ h) (k : ∀ ρ' h', M ρ' h' → dS tNext E ρ' h') : dS t E ρ h := fun σ H E' rl p =>
  z σ H E' rl ⟨fun ρ' h' σ' H' q r s => k ρ' h' q σ' H' E' r (p.step s), p.rt, p.bk, p.ct⟩
/-! ### targets -/
theorem g_name {N : Rho → Hs → Prop} (z : N (ρ.set n (some x)) h) : dG [n] (gName n) x ρ h N := fun σ H v N' rl dx p => by
  refine p _ h _ H z (rl.set dx n) (Same.refl _) (List.length_set ..) fun i hi => ?_
  exact List.getElem?_set_ne fun q => hi (by rw [q]; exact List.mem_singleton.mpr rfl)
theorem g_nil {N : Rho → Hs → Prop} (z : N ρ h) : dGs [] gNil [] ρ h N := fun σ H v N' rl dx p => by
  cases dx
  exact ⟨rfl, p ρ h σ H z rl (Same.refl _) rfl fun _ _ => rfl⟩
theorem g_cons {g : TG} {gs : TGs} {xs : List D} {W W2 : List Nat} {N : Rho → Hs → Prop} (z : dG W g x ρ h fun ρ1 h1 => dGs W2 gs xs ρ1 h1 N) : dGs (W ++ W2) (gCons g gs) (x :: xs) ρ h N := fun σ H vs N' rl dx p => by
  cases dx with
  | cons d1 dx =>
    refine ⟨_, _, rfl, z σ H _ _ rl d1 fun ρ1 h1 σ1 H1 q r s l1 u => q σ1 H1 _ N' r (dx.mono s) fun ρ2 h2 σ2 H2 q2 r2 s2 l2 u2 => ?_⟩
    exact p ρ2 h2 σ2 H2 q2 r2 (s.trans s2) (l2.trans l1) fun i hi => (u2 i fun k => hi (List.mem_append_right _ k)).trans (u i fun k => hi (List.mem_append_left _ k))
theorem g_tup {K : PySem.W.Frag} {gs : TGs} {xs : List D} {W : List Nat} {N : Rho → Hs → Prop} (hl : xs.length = n) (z : dGs W gs xs ρ h N) : dG W (gTup K n gs) (.tup xs) ρ h N := fun σ H v N' rl dx p => by
  cases dx with
  | tup e dx =>
    exact ⟨_, _, rfl, .of (fz_some e).2, by rw [dx.len]; exact hl, z σ H _ N' rl dx p⟩
end
/-! ### what is walked -/
structure ItOk (J : It) (ds : List D) (St : Hs → Hp → Prop) : Prop where
  ex : ∃ (G : Hp → Prop) (Y : Nat → Hp → V → Hp → Prop), Walk J ds.length G Y ∧ (∀ h H, RelH h H → St h H → G H) ∧
    ∀ i h H x H', RelH h H → St h H → Y i H x H' → ∃ d, ds[i]? = some d ∧ Dx (Fz h H') x d ∧ RelH h H' ∧ Sm h H h H'
def dI (w : TI) (ρ : Rho) (h : Hs) (R : List D → (Hs → Prop) → Hs → Prop) : Prop := ∀ σ H (R' : It → Hp → Prop), Rel ρ h σ H →
  (∀ ds Sd J h1 H1, R ds Sd h1 → RelH h1 H1 → Sm h H h1 H1 → ItOk J ds (fun h' H' => Sd h' ∧ Same (Fz h1 H1) (Fz h' H')) → R' J H1) → w σ H R'
def dFor (g : TG) (t : TS) (E : DEnds) (ρ : Rho) (ds : List D) (Sd : Hs → Prop) (h : Hs) : Prop :=
  ∃ Pv : Nat → Rho → Hs → Prop, Pv 0 ρ h ∧ (∀ i ρ h, i ≤ ds.length → Pv i ρ h → Sd h) ∧
    (∀ i x ρ h, ds[i]? = some x → Pv i ρ h → ∃ W, dG W g x ρ h fun ρ1 h1 => dS t { E with nx := Pv (i + 1), ct := Pv (i + 1), bk := E.nx } ρ1 h1) ∧
    ∀ ρ h, Pv ds.length ρ h → dS tNext E ρ h
theorem forgo_of {J : It} {g : TG} {t : TS} {E : DEnds} {E' : Ends} {ρ : Rho} {h1 : Hs} {σ : L2.St} {H1 : Hp} {ds : List D} {Sd : Hs → Prop} (rl1 : Rel ρ h1 σ H1) (p1 : PostE h1 H1 E E')
    (it : ItOk J ds (fun h' H' => Sd h' ∧ Same (Fz h1 H1) (Fz h' H'))) (z : dFor g t E ρ ds Sd h1) : ForGo g t E' J σ H1 := by
  obtain ⟨Pv, p0, pG, ps, pd⟩ := z
  obtain ⟨G, Y, wk, hG, hY⟩ := it
  refine for_go wk (fun i σ' H' => ∃ ρ' h', Pv i ρ' h' ∧ Rel ρ' h' σ' H' ∧ Sm h1 H1 h' H') ⟨ρ, h1, p0, rl1, Same.refl _⟩ ?_ ?_ ?_
  · rintro i σ' H' hi ⟨ρ', h', q, r, s⟩
    exact hG h' H' r.rh ⟨pG i ρ' h' hi q, s⟩
  · rintro i x σ' H' H2 hi ⟨ρ', h', q, r, s⟩ y
    obtain ⟨d, ed, dx, rh2, s2⟩ := hY i h' H' x H2 r.rh ⟨pG i ρ' h' (Nat.le_of_lt hi) q, s⟩ y
    obtain ⟨W, q2⟩ := ps i d ρ' h' ed q
    refine q2 σ' H2 x _ (r.step rh2 s2) dx fun ρ3 h3 σ3 H3 q3 r3 s3 _ _ => ?_
    have s03 : Sm h1 H1 h3 H3 := s.trans (s2.trans s3)
    have cont : PostS h3 H3 (Pv (i + 1)) (fun σ' H' => ∃ ρ' h', Pv (i + 1) ρ' h' ∧ Rel ρ' h' σ' H' ∧ Sm h1 H1 h' H') := fun ρ4 h4 σ4 H4 q4 r4 s4 => ⟨ρ4, h4, q4, r4, s03.trans s4⟩
    exact q3 σ3 H3 _ r3 ⟨cont, p1.rt.step s03, p1.nx.step s03, cont⟩
  · rintro σ' H' ⟨ρ', h', q, r, s⟩
    exact pd ρ' h' q σ' H' E' r (p1.step s)
theorem d_for {w : TI} {g : TG} {t : TS} {E : DEnds} {ρ : Rho} {h : Hs} (z : dI w ρ h fun ds Sd h1 => dFor g t E ρ ds Sd h1) : dS (tFor w g t) E ρ h := fun σ H E' rl p =>
  r_for (z σ H _ rl fun _ _ _ _ _ q rh1 s1 it => forgo_of (rl.step rh1 s1) (p.step s1) it q)
/-- a comprehension: acc, what is made so far -/
def wipeD (ρ : Rho) : List Nat → Rho
  | [] => ρ
  | v :: vs => (wipeD ρ vs).set v none
theorem wipeD_len (ρ : Rho) : ∀ vs : List Nat, (wipeD ρ vs).length = ρ.length
  | [] => rfl
  | v :: vs => by unfold wipeD; rw [List.length_set, wipeD_len ρ vs]
theorem wipe_get (σ : L2.St) : ∀ (vs : List Nat) (i : Nat), (wipe σ vs)[i]? = if i ∈ vs ∧ i < σ.length then some none else σ[i]?
  | [], i => by simp [wipe]
  | v :: vs, i => by
    unfold wipe
    by_cases hi : v = i
    · subst hi
      by_cases hv : v < σ.length
      · rw [List.getElem?_set_self (by rw [wipe_length]; exact hv), if_pos ⟨List.mem_cons_self .., hv⟩]
      · rw [List.getElem?_eq_none (by rw [List.length_set, wipe_length]; omega), if_neg (fun q => hv q.2), List.getElem?_eq_none (by omega)]
    · rw [List.getElem?_set_ne hi, wipe_get σ vs i]
      have : (i ∈ v :: vs) ↔ i ∈ vs := by
        rw [List.mem_cons]
        exact ⟨fun q => q.resolve_left fun e => hi e.symm, .inr⟩
      simp only [this]
theorem wipeD_get (ρ : Rho) : ∀ (vs : List Nat) (i : Nat), (wipeD ρ vs)[i]? = if i ∈ vs ∧ i < ρ.length then some none else ρ[i]?
  | [], i => by simp [wipeD]
  | v :: vs, i => by
    unfold wipeD
    by_cases hi : v = i
    · subst hi
      by_cases hv : v < ρ.length
      · rw [List.getElem?_set_self (by rw [wipeD_len]; exact hv), if_pos ⟨List.mem_cons_self .., hv⟩]
      · rw [List.getElem?_eq_none (by rw [List.length_set, wipeD_len]; omega), if_neg (fun q => hv q.2), List.getElem?_eq_none (by omega)]
    · rw [List.getElem?_set_ne hi, wipeD_get ρ vs i]
      have : (i ∈ v :: vs) ↔ i ∈ vs := by
        rw [List.mem_cons]
        exact ⟨fun q => q.resolve_left fun e => hi e.symm, .inr⟩
      simp only [this]
theorem Rel.wipe {ρ : Rho} {h : Hs} {σ : L2.St} {H : Hp} (r : Rel ρ h σ H) (vs : List Nat) : Rel (wipeD ρ vs) h (L2.wipe σ vs) H := by
  refine ⟨r.rh, by rw [wipeD_len, wipe_length, r.len], fun i d e => ?_⟩
  rw [wipeD_get] at e
  split at e
  · cases e
  · rename_i n
    obtain ⟨v, e1, x⟩ := r.sl i d e
    refine ⟨v, ?_, x⟩
    rw [wipe_get, if_neg (by rw [← r.len]; exact n)]
    exact e1
theorem wipe_wipe {σ σ' : L2.St} {vs : List Nat} (l : σ'.length = σ.length) (u : ∀ i, i ∉ vs → σ'[i]? = (wipe σ vs)[i]?) : wipe σ' vs = wipe σ vs := by
  refine List.ext_getElem? fun i => ?_
  rw [wipe_get]
  by_cases hi : i ∈ vs
  · rw [wipe_get]
    by_cases hl : i < σ.length
    · rw [if_pos ⟨hi, by omega⟩, if_pos ⟨hi, hl⟩]
    · rw [if_neg (by intro q; exact hl (by omega)), if_neg (by intro q; exact hl (by omega)), List.getElem?_eq_none (by omega), List.getElem?_eq_none (by omega)]
  · rw [if_neg (fun q => hi q.1)]
    exact u i hi
/-- a new list: data, or a cell, as the caller likes -/
def Fresh (ds : List D) (h : Hs) (Q : QD) : Prop := Q (.lst ds) h ∨ ∀ a, h a = none → Q (.ref a) (seth h a (.lst ds))
/-- the turns of a comprehension: what is made so far is told by Pv -/
def dLcGo (g : TG) (tt : TT) (te : TE) (vs : List Nat) (ρ : Rho) (Q : QD) (ds : List D) (Sd : Hs → Prop) (h : Hs) : Prop :=
  ds.length ≤ 1000000 ∧ ∃ Pv : Nat → List D → Prop, Pv 0 [] ∧ (∀ p o, h p = none → Sd h → Sd (seth h p o)) ∧ Sd h ∧
    (∀ p i acc x, h p = none → ds[i]? = some x → Pv i acc → acc.length ≤ i → dG vs g x (wipeD ρ vs) (seth h p (.lst acc)) fun ρ1 h1 => h1 = seth h p (.lst acc) ∧
      dT tt ρ1 h1 fun b h2 => h2 = seth h p (.lst acc) ∧ if b = true then dE te ρ1 h2 fun y h3 => h3 = seth h p (.lst acc) ∧ Pv (i + 1) (acc ++ [y]) else Pv (i + 1) acc) ∧
    (∀ acc, acc.length ≤ ds.length → Pv ds.length acc → Fresh acc h Q)
theorem lcgo_of {J : It} {g : TG} {tt : TT} {te : TE} {vs : List Nat} {ρ : Rho} {h1 : Hs} {σ : L2.St} {H1 : Hp} {Q : QD} {Q' : VK} {ds : List D} {Sd : Hs → Prop} (rl1 : Rel ρ h1 σ H1) (p1 : Post h1 H1 Q Q')
    (it : ItOk J ds (fun h' H' => Sd h' ∧ Same (Fz h1 H1) (Fz h' H'))) (z : dLcGo g tt te vs ρ Q ds Sd h1) : LcGo g tt te vs σ Q' J H1 := by
  obtain ⟨hn, Pv, p0, pS, pG, ps, pd⟩ := z
  obtain ⟨G, Y, wk, hG, hY⟩ := it
  have rh1 := rl1.rh
  refine lc_go wk (fun D i acc H' => ∃ dac, acc.length = dac.length ∧ H' D = some (.lst acc) ∧ Pv i dac ∧ RelH (seth h1 D (.lst dac)) H' ∧ Sm h1 H1 (seth h1 D (.lst dac)) H') ?_ ?_ ?_ ?_
  · intro D hD
    obtain ⟨r2, s2⟩ := rh1.newC (o := .lst []) (c := .lst []) hD ⟨[], upd_same, .nil⟩ (fun _ e => nomatch e)
    exact ⟨[], rfl, upd_same, p0, r2, s2⟩
  · rintro D i acc H' hi hD ⟨dac, el, eD, q, r, s⟩
    exact hG _ H' r ⟨pS D _ (rh1.no hD) pG, s⟩
  · rintro D i acc x H2 H3 hi hD hl hA ⟨dac, el, eD, q, r, s⟩ y
    have nD := rh1.no hD
    obtain ⟨d, ed, dx, r3, s3⟩ := hY i _ H2 x H3 r ⟨pS D _ nD pG, s⟩ y
    have q2 := ps D i dac d nD ed q (by omega)
    have rw1 : Rel (wipeD ρ vs) (seth h1 D (.lst dac)) (wipe σ vs) H3 := (rl1.step r3 (s.trans s3)).wipe vs
    refine q2 _ H3 x _ rw1 dx ?_
    rintro ρ4 h4 σ4 H4 ⟨rfl, q4⟩ r4 s4 l4 u4
    have hlen4 : σ4.length = σ.length := l4.trans (wipe_length σ vs)
    refine ⟨wipe_wipe hlen4 fun i hi => u4 i hi, ?_⟩
    refine q4 σ4 H4 _ r4 ?_
    rintro b h5 H5 ⟨rfl, q5⟩ r5 s5
    cases b with
    | true =>
      rw [if_pos rfl] at q5 ⊢
      refine q5 σ4 H5 _ (r4.step r5 s5) ?_
      rintro y h6 v H6 ⟨rfl, q6⟩ dy r6 s6
      obtain ⟨vs6, e6, dv6⟩ := r6.cell D _ seth_same
      have sAll : Sm (seth h1 D (.lst dac)) H2 (seth h1 D (.lst dac)) H6 := s3.trans (s4.trans (s5.trans s6))
      obtain ⟨r7, s7⟩ := r6.write (o := .lst (vs6 ++ [v])) (c := .lst (dac ++ [y])) seth_same (fun _ e => nomatch e) (fun e => nomatch e) ⟨_, upd_same, dv6.app (.one dy)⟩ (fun _ e => nomatch e)
      rw [seth_seth] at r7 s7
      refine lc_put e6 (by rw [dv6.len]; omega) (by omega) ⟨dac ++ [y], by rw [List.length_append, List.length_append, dv6.len]; rfl, upd_same, q6, r7, s.trans (sAll.trans s7)⟩
    | false =>
      rw [if_neg Bool.false_ne_true] at q5 ⊢
      obtain ⟨vs6, e6, dv6⟩ := r5.cell D _ seth_same
      exact lc_skip e6 (by rw [dv6.len]; omega) ⟨dac, dv6.len, e6, q5, r5, s.trans (s3.trans (s4.trans s5))⟩
  · rintro D acc H' hD hl ⟨dac, el, eD, q, r, s⟩ hA
    have q2 := pd dac (by omega) q
    rcases q2 with q2 | q2
    · obtain ⟨r3, s3, x3⟩ := Frz.ok (.lst (seth_same) .id) r (.ref D)
      rw [delh_seth (rh1.no hD)] at r3 s3 x3
      exact p1 _ _ _ _ q2 x3 r3 (s.trans s3)
    · exact p1 _ _ _ _ (q2 D (rh1.no hD)) (.ref D) r s
theorem d_lc {w : TI} {g : TG} {tt : TT} {te : TE} {vs : List Nat} {ρ : Rho} {h : Hs} {Q : QD} (z : dI w ρ h fun ds Sd h1 => dLcGo g tt te vs ρ Q ds Sd h1) : dE (tLc w g tt te vs) ρ h Q := fun σ H Q' rl p =>
  r_lc (z σ H _ rl fun _ _ _ _ _ q rh1 s1 it => lcgo_of (rl.step rh1 s1) (p.step s1) it q)
end GX

set_option Elab.async false
set_option linter.all false
set_option maxRecDepth 100000
set_option maxHeartbeats 4000000
namespace GX
open PySem L2 PySem.Spec PyProof.Rows
/-! ### defs and calls -/
/-- a promise about data -/
abbrev TD := List D → Hs → QD → Prop
def spD (t : TD) : Sp := fun vs H Q' _ => ∃ ds h Q, DxA (Fz h H) vs ds ∧ RelH h H ∧ t ds h Q ∧ Post h H Q Q'
def startD (N : List Str) (ds : List D) : Rho := ds.map some ++ List.replicate (N.length - ds.length) none
def endD (Q : QD) : DEnds := ⟨fun _ h => Q .non h, Q, fun _ _ => False, fun _ _ => False⟩
theorem rel_start {N : List Str} {h : Hs} {H : Hp} {vs : List V} {ds : List D} (a : DxA (Fz h H) vs ds) (r : RelH h H) : Rel (startD N ds) h (L2.start N vs) H := by
  refine ⟨r, ?_, fun i d e => ?_⟩
  · unfold startD L2.start
    simp only [List.length_append, List.length_map, List.length_replicate, a.len]
  · unfold startD at e
    unfold L2.start
    by_cases hi : i < ds.length
    · rw [List.getElem?_append_left (by simpa using hi), List.getElem?_map] at e
      rw [List.getElem?_append_left (by simpa [a.len] using hi), List.getElem?_map]
      obtain ⟨v, e1, x⟩ := a.get (List.getElem?_eq_getElem hi)
      rw [List.getElem?_eq_getElem hi] at e
      cases e
      exact ⟨v, by rw [e1]; rfl, x⟩
    · rw [List.getElem?_append_right (by simpa using hi), List.getElem?_replicate] at e
      split at e <;> cases e
section
variable {P : Program} {w : World} {K : PySem.W.Frag} {mg : Str → Option Value} {base : Heap}
theorem okD {x qual : Str} {st : Stmt} {f : Addr} {fd : FuncData} {N ps : List Str} {k : Nat} {t : TD} (F : Fun K x qual st f fd) (S : FnScope N ps (defScope st))
    (len : ∀ ds h Q, t ds h Q → ds.length = ps.length)
    (hbody : ∀ (cdv : Value) (A : Around) (outer : List Env) (s : Shared) (H : Hp) (E : XK), A.guards = some [] → Room k (A.deeper (envOfC qual (defScope st) s.heap.objs.size f cdv)) →
      ∃ tb, PSs (cxOf CX0 P w K mg base N qual (defScope st) f cdv A outer s H E).nox (defBody st) tb ∧ ∀ ds h Q, t ds h Q → dS tb (endD Q) (startD N ds) h) :
    FnG P w K mg base CX0 (k + 1) f fd ps (spD t) := by
  refine okG F S (fun vs H Q E ⟨ds, h, Q2, a, _, z, _⟩ => a.len.trans (len ds h Q2 z)) fun cdv A outer s H vs Q E hg hr ⟨ds, h, Q2, a, rh, z, p⟩ => ?_
  obtain ⟨tb, hp, q⟩ := hbody cdv A outer s H E hg hr
  refine ⟨tb, hp, q ds h Q2 z _ H _ (rel_start a rh) ⟨fun ρ' h' σ' H' q r s => p _ h' _ H' q .non r.rh s, p, fun _ _ _ _ q => q.elim, fun _ _ _ _ q => q.elim⟩⟩
/-- a promise handed down -/
theorem FnG.mapD {k : Nat} {f : Addr} {fd : FuncData} {ps : List Str} {t t' : TD} (F : FnG P w K mg base CX0 k f fd ps (spD t)) (m : ∀ ds h Q, t' ds h Q → t ds h Q) : FnG P w K mg base CX0 k f fd ps (spD t') :=
  ⟨fun vs H Q E ⟨ds, h, Q2, a, r, z, p⟩ => F.len vs H Q E ⟨ds, h, Q2, a, r, m _ _ _ z, p⟩,
   fun A outer s H args us vs Q E g hr e0 b r ⟨ds, h, Q2, a, rh, z, p⟩ => F.run A outer s H args us vs Q E g hr e0 b r ⟨ds, h, Q2, a, rh, m _ _ _ z, p⟩⟩
/-- a promise of the heap as one of data -/
theorem FnG.toD {k : Nat} {f : Addr} {fd : FuncData} {ps : List Str} {sp : Sp} {t : TD} (F : FnG P w K mg base CX0 k f fd ps sp) (m : ∀ vs H Q E, spD t vs H Q E → sp vs H Q E) : FnG P w K mg base CX0 k f fd ps (spD t) :=
  ⟨fun vs H Q E z => F.len vs H Q E (m _ _ _ _ z), fun A outer s H args us vs Q E g hr e0 b r z => F.run A outer s H args us vs Q E g hr e0 b r (m _ _ _ _ z)⟩
end
section
variable {ρ : Rho} {h : Hs} {Q : QD} {ta tb tv te : TE} {t u : TS} {E : DEnds} {a : TA} {K : PySem.W.Frag}
theorem d_call {t : TD} {XE : XK} (z : dA a ρ h fun xs h1 => t xs h1 Q) : dE (tCall (spD t) [] XE a) ρ h Q := fun σ H Q' rl p =>
  z σ H _ rl fun xs h1 vs H1 q dx rh s => ⟨xs, h1, Q, by rw [List.append_nil]; exact dx, rh, q, p.step s⟩
theorem d_callV {t : TD} {XE : XK} {dvs : List V} {dds : List D} (hd : ∀ G, DxA G dvs dds) (z : dA a ρ h fun xs h1 => t (xs ++ dds) h1 Q) : dE (tCall (spD t) dvs XE a) ρ h Q := fun σ H Q' rl p =>
  z σ H _ rl fun xs h1 vs H1 q dx rh s => ⟨xs ++ dds, h1, Q, dx.app (hd _), rh, q, p.step s⟩
/-! ### instances -/
def InsV (h : Hs) (x : D) (C : Addr) (fs : List (Str × D)) : Prop := x = .ins C fs ∨ ∃ p, x = .ref p ∧ h p = some (.ins C fs)
theorem InsV.f {C : Addr} {fs : List (Str × D)} : InsV h (.ins C fs) C fs := .inl rfl
theorem InsV.c {C p : Addr} {fs : List (Str × D)} (e : h p = some (.ins C fs)) : InsV h (.ref p) C fs := .inr ⟨p, rfl, e⟩
theorem InsV.at {H : Hp} {v : V} {x : D} {C : Addr} {fs : List (Str × D)} (i : InsV h x C fs) (r : RelH h H) (d : Dx (Fz h H) v x) :
    ∃ p dx ws, v = .ref p ∧ H p = some (.ins C dx ws) ∧ ws.map (·.1) = fs.map (·.1) ∧ DxA (Fz h H) (ws.map (·.2)) (fs.map (·.2)) := by
  rcases i with rfl | ⟨p, rfl, e⟩
  · cases d with
    | ins e a b => exact ⟨_, _, _, rfl, (fz_some e).2, a, b⟩
  · cases d
    obtain ⟨dx, ws, h1, h2, h3⟩ := r.cell p _ e
    exact ⟨p, dx, ws, rfl, h1, h2, h3⟩
theorem lookup_dx {G : Hp} : ∀ {ws : List (Str × V)} {fs : List (Str × D)} {f : Str} {y : D}, ws.map (·.1) = fs.map (·.1) → DxA G (ws.map (·.2)) (fs.map (·.2)) → fs.lookup f = some y → ∃ w, ws.lookup f = some w ∧ Dx G w y
  | [], [], _, _, _, _, e => nomatch e
  | (g, v) :: ws, (g', d) :: fs, f, y, e, a, l => by
    injection e with e1 e2
    cases a with
    | cons a1 a2 =>
      have e1 : g = g' := e1
      subst e1
      rw [List.lookup_cons] at l ⊢
      cases q : f == g with
      | true => rw [q] at l; cases l; exact ⟨v, rfl, a1⟩
      | false => rw [q] at l; exact lookup_dx e2 a2 l
  | [], _ :: _, _, _, e, _, _ => nomatch e
  | _ :: _, [], _, _, e, _, _ => nomatch e
theorem lookup_no : ∀ {ws : List (Str × V)} {fs : List (Str × D)} {f : Str}, ws.map (·.1) = fs.map (·.1) → fs.lookup f = none → ws.lookup f = none
  | [], [], _, _, _ => rfl
  | (g, v) :: ws, (g', d) :: fs, f, e, l => by
    injection e with e1 e2
    have e1 : g = g' := e1
    subst e1
    rw [List.lookup_cons] at l ⊢
    cases q : f == g with
    | true => rw [q] at l; cases l
    | false => rw [q] at l; exact lookup_no e2 l
  | [], _ :: _, _, e, _ => nomatch e
  | _ :: _, [], _, e, _ => nomatch e
def putFD (f : Str) (v : D) : List (Str × D) → List (Str × D)
  | [] => [(f, v)]
  | (g, x) :: r => if g = f then (g, v) :: r else (g, x) :: putFD f v r
theorem putF_dx {G : Hp} {f : Str} {v : V} {d : D} (hv : Dx G v d) : ∀ {ws : List (Str × V)} {fs : List (Str × D)}, ws.map (·.1) = fs.map (·.1) → DxA G (ws.map (·.2)) (fs.map (·.2)) →
    (putF f v ws).map (·.1) = (putFD f d fs).map (·.1) ∧ DxA G ((putF f v ws).map (·.2)) ((putFD f d fs).map (·.2))
  | [], [], _, _ => ⟨rfl, .cons hv .nil⟩
  | (g, w) :: ws, (g', y) :: fs, e, a => by
    injection e with e1 e2
    have e1 : g = g' := e1
    subst e1
    cases a with
    | cons a1 a2 =>
      unfold putF putFD
      by_cases q : g = f
      · rw [if_pos q, if_pos q]
        exact ⟨by rw [List.map_cons, List.map_cons, e2], .cons hv a2⟩
      · rw [if_neg q, if_neg q]
        obtain ⟨r1, r2⟩ := putF_dx hv e2 a2
        exact ⟨by rw [List.map_cons, List.map_cons, r1], .cons a1 r2⟩
  | [], _ :: _, e, _ => nomatch e
  | _ :: _, [], e, _ => nomatch e
theorem d_fld {f : Str} (z : dE ta ρ h fun x h1 => ∃ C fs y, InsV h1 x C fs ∧ Cls K C ∧ NoAttr K C f ∧ fs.lookup f = some y ∧ Q y h1) : dE (tFld K ta f) ρ h Q := fun σ H Q' rl p =>
  z σ H _ rl fun x h1 v H1 ⟨C, fs, y, i, c, n, l, q⟩ dx rh s => by
    obtain ⟨b, dx', ws, rfl, e, a1, a2⟩ := i.at rh dx
    obtain ⟨w, l2, dw⟩ := lookup_dx a1 a2 l
    exact ⟨b, C, dx', ws, w, rfl, e, c, n, l2, p y h1 w H1 q dw rh s⟩
theorem d_sfld {f : Str} (z : dE tv ρ h fun y h1 => dE ta ρ h1 fun x h2 => ∃ o C fs, x = .ref o ∧ h2 o = some (.ins C fs) ∧ Cls K C ∧ NoAttr K C f ∧ fs.length < 1000 ∧ E.nx ρ (seth h2 o (.ins C (putFD f y fs)))) : dS (sFld K ta tv f) E ρ h := fun σ H E' rl p =>
  z σ H _ rl fun y h1 v H1 q dy rh s => q σ H1 _ (rl.step rh s) fun x h2 w H2 ⟨o, C, fs, ex, e, c, n, l, q2⟩ dx rh2 s2 => by
    subst ex
    cases dx
    obtain ⟨dx', ws, e2, a1, a2⟩ := rh2.cell o _ e
    have hl : ws.length = fs.length := by
      have := congrArg List.length a1
      rwa [List.length_map, List.length_map] at this
    obtain ⟨b1, b2⟩ := putF_dx (f := f) (dy.mono s2) a1 a2
    obtain ⟨r3, s3⟩ := rh2.write (o := .ins C dx' (putF f v ws)) (c := .ins C (putFD f y fs)) e (fun _ q => nomatch q) (fun q => nomatch q) ⟨dx', _, upd_same, b1, b2⟩ (fun _ q => nomatch q)
    exact ⟨o, C, dx', ws, rfl, e2, c, n, by omega, p.nx _ _ σ _ q2 (rl.step r3 (s.trans (s2.trans s3))) (s.trans (s2.trans s3))⟩
theorem d_meth {C : Addr} {m : Str} {t : TD} {XE : XK} (z : dE ta ρ h fun x h1 => ∃ fs, InsV h1 x C fs ∧ fs.lookup m = none ∧ dA a ρ h1 fun xs h2 => t (x :: xs) h2 Q) : dE (tMeth C m (spD t) [] XE ta a) ρ h Q := fun σ H Q' rl p =>
  z σ H _ rl fun x h1 v H1 ⟨fs, i, l, q⟩ dx rh s => by
    obtain ⟨b, dx', ws, rfl, e, a1, a2⟩ := i.at rh dx
    refine ⟨b, dx', ws, rfl, e, lookup_no a1 l, q σ H1 _ (rl.step rh s) fun xs h2 vs H2 q2 dxs rh2 s2 => ?_⟩
    exact ⟨x :: xs, h2, Q, by rw [List.append_nil]; exact .cons (dx.mono s2) dxs, rh2, q2, p.step (s.trans s2)⟩
theorem d_methV {C : Addr} {m : Str} {t : TD} {XE : XK} {dvs : List V} {dds : List D} (hd : ∀ G, DxA G dvs dds) (z : dE ta ρ h fun x h1 => ∃ fs, InsV h1 x C fs ∧ fs.lookup m = none ∧ dA a ρ h1 fun xs h2 => t (x :: (xs ++ dds)) h2 Q) : dE (tMeth C m (spD t) dvs XE ta a) ρ h Q := fun σ H Q' rl p =>
  z σ H _ rl fun x h1 v H1 ⟨fs, i, l, q⟩ dx rh s => by
    obtain ⟨b, dx', ws, rfl, e, a1, a2⟩ := i.at rh dx
    refine ⟨b, dx', ws, rfl, e, lookup_no a1 l, q σ H1 _ (rl.step rh s) fun xs h2 vs H2 q2 dxs rh2 s2 => ?_⟩
    exact ⟨x :: (xs ++ dds), h2, Q, .cons (dx.mono s2) (dxs.app (hd _)), rh2, q2, p.step (s.trans s2)⟩
theorem d_make {C : Addr} {t : TD} {XE : XK} (z : dA a ρ h fun xs h1 => ∀ o, h1 o = none → t (.ref o :: xs) (seth h1 o (.ins C [])) fun v h2 => v = .non ∧ Q (.ref o) h2) : dE (tMake C (spD t) [] XE a) ρ h Q := fun σ H Q' rl p =>
  z σ H _ rl fun xs h1 vs H1 q dxs rh s o dx no ndx ne => by
    obtain ⟨r1, s1⟩ := rh.newF (o := .own o) ndx
    have no1 : upd H1 dx (.own o) o = none := by rw [upd_ne ne.symm]; exact no
    obtain ⟨r2, s2⟩ := r1.newC (o := .ins C dx []) (c := .ins C []) no1 ⟨dx, [], upd_same, rfl, .nil⟩ (fun _ q => nomatch q)
    refine ⟨.ref o :: xs, _, _, by rw [List.append_nil]; exact .cons (.ref o) (dxs.mono (s1.trans s2)), r2, q o (rh.no no), ?_⟩
    rintro d h' v H' ⟨rfl, q2⟩ dv r' s'
    cases dv
    exact ⟨rfl, p _ h' _ H' q2 (.ref o) r' (s.trans (s1.trans (s2.trans s')))⟩
/-! ### dicts -/
def dval {κ : Type} [DecidableEq κ] (kds : List (κ × D)) (k : κ) : Option D := (kds.find? fun kv => decide (kv.1 = k)).map (·.2)
def dput {κ : Type} [DecidableEq κ] (kds : List (κ × D)) (k : κ) (v : D) : List (κ × D) :=
  if (kds.any fun kv => decide (kv.1 = k)) = true then kds.map (fun kv => if kv.1 = k then (kv.1, v) else kv) else kds ++ [(k, v)]
/-- a dict's pairs -/
structure KDx {κ : Type} (G : Hp) (kvs : List (κ × V)) (kds : List (κ × D)) : Prop where
  ks : kvs.map (·.1) = kds.map (·.1)
  vs : DxA G (kvs.map (·.2)) (kds.map (·.2))
section
variable {κ : Type} [DecidableEq κ] {G : Hp}
theorem KDx.val : ∀ {kvs : List (κ × V)} {kds : List (κ × D)} {k : κ}, KDx G kvs kds → (dval kds k = none ∧ valV kvs k = none) ∨ ∃ d v, dval kds k = some d ∧ valV kvs k = some v ∧ Dx G v d
  | [], [], k, _ => .inl ⟨rfl, rfl⟩
  | (g, v) :: r, (g', d) :: r', k, z => by
    have e1 := (List.cons.inj z.ks).1
    have e2 := (List.cons.inj z.ks).2
    have e1 : g = g' := e1
    subst e1
    have a := z.vs
    cases a with
    | cons a1 a2 =>
      by_cases q : g = k
      · exact .inr ⟨d, v, by simp [dval, List.find?_cons, q], by simp [valV, List.find?_cons, q], a1⟩
      · have := KDx.val (k := k) ⟨e2, a2⟩
        have n1 : dval ((g, d) :: r') k = dval r' k := by simp [dval, List.find?_cons, q]
        have n2 : valV ((g, v) :: r) k = valV r k := by simp [valV, List.find?_cons, q]
        rw [n1, n2]
        exact this
  | [], _ :: _, _, z => nomatch z.ks
  | _ :: _, [], _, z => nomatch z.ks
theorem KDx.any {kvs : List (κ × V)} {kds : List (κ × D)} {k : κ} (z : KDx G kvs kds) : (kvs.any fun kv => decide (kv.1 = k)) = (kds.any fun kv => decide (kv.1 = k)) := by
  have e1 : (kvs.any fun kv => decide (kv.1 = k)) = (kvs.map (·.1)).any fun x => decide (x = k) := by rw [List.any_map]; rfl
  have e2 : (kds.any fun kv => decide (kv.1 = k)) = (kds.map (·.1)).any fun x => decide (x = k) := by rw [List.any_map]; rfl
  rw [e1, e2, z.ks]
theorem KDx.rep : ∀ {kvs : List (κ × V)} {kds : List (κ × D)} {k : κ} {v : V} {d : D}, KDx G kvs kds → Dx G v d →
    KDx G (kvs.map fun kv => if kv.1 = k then (kv.1, v) else kv) (kds.map fun kv => if kv.1 = k then (kv.1, d) else kv)
  | [], [], k, _, _, _, _ => ⟨rfl, .nil⟩
  | (g, u) :: r, (g', e) :: r', k, v, d, z, hv => by
    have e1 := (List.cons.inj z.ks).1
    have e2 := (List.cons.inj z.ks).2
    have e1 : g = g' := e1
    subst e1
    have a := z.vs
    cases a with
    | cons a1 a2 =>
      have ih := KDx.rep (k := k) ⟨e2, a2⟩ hv
      rw [List.map_cons, List.map_cons]
      by_cases q : g = k
      · simp only [if_pos q]
        exact ⟨by rw [List.map_cons, List.map_cons, ih.ks], by rw [List.map_cons, List.map_cons]; exact .cons hv ih.vs⟩
      · simp only [if_neg q]
        exact ⟨by rw [List.map_cons, List.map_cons, ih.ks], by rw [List.map_cons, List.map_cons]; exact .cons a1 ih.vs⟩
  | [], _ :: _, _, _, _, z, _ => nomatch z.ks
  | _ :: _, [], _, _, _, z, _ => nomatch z.ks
theorem KDx.put {kvs : List (κ × V)} {kds : List (κ × D)} {k : κ} {v : V} {d : D} (z : KDx G kvs kds) (hv : Dx G v d) : KDx G (putK kvs k v) (dput kds k d) := by
  unfold putK dput
  rw [z.any]
  split
  · exact z.rep hv
  · refine ⟨?_, ?_⟩
    · rw [List.map_append, List.map_append, z.ks]; rfl
    · rw [List.map_append, List.map_append]
      exact z.vs.app (.one hv)
theorem KDx.len {kvs : List (κ × V)} {kds : List (κ × D)} (z : KDx G kvs kds) : kvs.length = kds.length := by
  have := congrArg List.length z.ks
  rwa [List.length_map, List.length_map] at this
theorem KDx.get {kvs : List (κ × V)} {kds : List (κ × D)} (z : KDx G kvs kds) {i : Nat} {k : κ} {v : V} (e : kvs[i]? = some (k, v)) : ∃ d, kds[i]? = some (k, d) ∧ Dx G v d := by
  have e1 : (kvs.map (·.1))[i]? = some k := by rw [List.getElem?_map, e]; rfl
  have e2 : (kvs.map (·.2))[i]? = some v := by rw [List.getElem?_map, e]; rfl
  rw [z.ks, List.getElem?_map] at e1
  obtain ⟨d, e3, dx⟩ := z.vs.getV e2
  rw [List.getElem?_map] at e3
  cases q : kds[i]? with
  | none => rw [q] at e1; cases e1
  | some kd =>
    rw [q] at e1 e3
    have a : kd.1 = k := Option.some.inj e1
    have b : kd.2 = d := Option.some.inj e3
    exact ⟨d, by rw [← a, ← b], dx⟩
end
/-- a dict seen: data or a cell -/
def DkV (h : Hs) (x : D) (kds : List (Key × D)) : Prop := x = .dK kds ∨ ∃ p, x = .ref p ∧ (h p = some (.dK kds) ∨ ∃ o kvs, h p = some (.dKl o kvs kds))
def DtV (h : Hs) (x : D) (kds : List (List Key × D)) : Prop := x = .dT kds ∨ ∃ p, x = .ref p ∧ h p = some (.dT kds)
theorem DkV.f {kds : List (Key × D)} : DkV h (.dK kds) kds := .inl rfl
theorem DkV.c {p : Addr} {kds : List (Key × D)} (e : h p = some (.dK kds)) : DkV h (.ref p) kds := .inr ⟨p, rfl, .inl e⟩
theorem DkV.k {p : Addr} {o : Obj} {kvs : List (Key × V)} {kds : List (Key × D)} (e : h p = some (.dKl o kvs kds)) : DkV h (.ref p) kds := .inr ⟨p, rfl, .inr ⟨o, kvs, e⟩⟩
theorem DtV.f {kds : List (List Key × D)} : DtV h (.dT kds) kds := .inl rfl
theorem DtV.c {p : Addr} {kds : List (List Key × D)} (e : h p = some (.dT kds)) : DtV h (.ref p) kds := .inr ⟨p, rfl, e⟩
theorem un_dK {u : HO} {kvs : List (Key × V)} (e : un u = .dK kvs) : u = .dK kvs ∨ ∃ o, u = .frz o (.dK kvs) := by
  unfold un at e
  split at e
  · cases e; exact .inr ⟨_, rfl⟩
  · cases e
  · exact .inl e
theorem un_dT {u : HO} {kvs : List (List Key × V)} (e : un u = .dT kvs) : u = .dT kvs ∨ ∃ o, u = .frz o (.dT kvs) := by
  unfold un at e
  split at e
  · cases e
  · cases e; exact .inr ⟨_, rfl⟩
  · exact .inl e
theorem DkV.at {H : Hp} {v : V} {x : D} {kds : List (Key × D)} (i : DkV h x kds) (r : RelH h H) (d : Dx (Fz h H) v x) : ∃ p kvs, v = .ref p ∧ Rd H p (.dK kvs) ∧ KDx (Fz h H) kvs kds := by
  rcases i with rfl | ⟨p, rfl, e | ⟨o, kvs, e⟩⟩
  · cases d with
    | dK e u a b =>
      have e' := (fz_some e).2
      rcases un_dK u with rfl | ⟨o, rfl⟩
      · exact ⟨_, _, rfl, .inl e', a, b⟩
      · exact ⟨_, _, rfl, .inr ⟨o, e'⟩, a, b⟩
  · cases d
    obtain ⟨kvs, h1, h2, h3⟩ := r.cell p _ e
    exact ⟨p, kvs, rfl, .inl h1, h2, h3⟩
  · cases d
    obtain ⟨h1, h2, h3⟩ := r.cell p _ e
    exact ⟨p, kvs, rfl, .inr ⟨o, h1⟩, h2, h3⟩
theorem DtV.at {H : Hp} {v : V} {x : D} {kds : List (List Key × D)} (i : DtV h x kds) (r : RelH h H) (d : Dx (Fz h H) v x) : ∃ p kvs, v = .ref p ∧ Rd H p (.dT kvs) ∧ KDx (Fz h H) kvs kds := by
  rcases i with rfl | ⟨p, rfl, e⟩
  · cases d with
    | dT e u a b =>
      have e' := (fz_some e).2
      rcases un_dT u with rfl | ⟨o, rfl⟩
      · exact ⟨_, _, rfl, .inl e', a, b⟩
      · exact ⟨_, _, rfl, .inr ⟨o, e'⟩, a, b⟩
  · cases d
    obtain ⟨kvs, h1, h2, h3⟩ := r.cell p _ e
    exact ⟨p, kvs, rfl, .inl h1, h2, h3⟩
/-- what a dict says of a key -/
inductive DGetD (h : Hs) (x : D) : D → Option D → Prop
  | k {kds : List (Key × D)} {k : Key} : DkV h x kds → DGetD h x (kD k) (dval kds k)
  | t {kds : List (List Key × D)} {k : List Key} : DtV h x kds → DGetD h x (.tup (k.map kD)) (dval kds k)
theorem DGetD.at {H : Hp} {v w : V} {x y : D} {o : Option D} (i : DGetD h x y o) (r : RelH h H) (dx : Dx (Fz h H) v x) (dy : Dx (Fz h H) w y) :
    ∃ p, v = .ref p ∧ ((o = none ∧ DGet H p w none) ∨ ∃ d u, o = some d ∧ DGet H p w (some u) ∧ Dx (Fz h H) u d) := by
  cases i with
  | @k kds k i =>
    obtain ⟨p, kvs, rfl, e, z⟩ := i.at r dx
    have := dx_key_inv dy
    subst this
    refine ⟨p, rfl, ?_⟩
    rcases z.val (k := k) with ⟨e1, e2⟩ | ⟨d, u, e1, e2, du⟩
    · exact .inl ⟨e1, .inl ⟨kvs, k, e, rfl, e2.symm⟩⟩
    · exact .inr ⟨d, u, e1, .inl ⟨kvs, k, e, rfl, e2.symm⟩, du⟩
  | @t kds k i =>
    obtain ⟨p, kvs, rfl, e, z⟩ := i.at r dx
    cases dy with
    | @tup q vs _ e4 a =>
      have := dxA_keys_inv a
      subst this
      refine ⟨p, rfl, ?_⟩
      rcases z.val (k := k) with ⟨e1, e2⟩ | ⟨d, u, e1, e2, du⟩
      · exact .inl ⟨e1, .inr ⟨kvs, k, q, e, rfl, (fz_some e4).2, e2.symm⟩⟩
      · exact .inr ⟨d, u, e1, .inr ⟨kvs, k, q, e, rfl, (fz_some e4).2, e2.symm⟩, du⟩
theorem d_din (z : dE tb ρ h fun y h1 => dE ta ρ h1 fun x h2 => ∃ o, DGetD h2 x y o ∧ Q (.bl o.isSome) h2) : dE (tDIn tb ta) ρ h Q := fun σ H Q' rl p =>
  z σ H _ rl fun y h1 w H1 q dy rh s => q σ H1 _ (rl.step rh s) fun x h2 v H2 ⟨o, i, q2⟩ dx rh2 s2 => by
    obtain ⟨b, rfl, k⟩ := i.at rh2 dx (dy.mono s2)
    rcases k with ⟨rfl, g⟩ | ⟨d, u, rfl, g, _⟩
    · exact ⟨b, none, rfl, g, p _ h2 _ H2 q2 (.bl _) rh2 (s.trans s2)⟩
    · exact ⟨b, some u, rfl, g, p _ h2 _ H2 q2 (.bl _) rh2 (s.trans s2)⟩
theorem d_dnin (z : dE tb ρ h fun y h1 => dE ta ρ h1 fun x h2 => ∃ o, DGetD h2 x y o ∧ Q (.bl (!o.isSome)) h2) : dE (tDNotIn tb ta) ρ h Q := fun σ H Q' rl p =>
  z σ H _ rl fun y h1 w H1 q dy rh s => q σ H1 _ (rl.step rh s) fun x h2 v H2 ⟨o, i, q2⟩ dx rh2 s2 => by
    obtain ⟨b, rfl, k⟩ := i.at rh2 dx (dy.mono s2)
    rcases k with ⟨rfl, g⟩ | ⟨d, u, rfl, g, _⟩
    · exact ⟨b, none, rfl, g, p _ h2 _ H2 q2 (.bl _) rh2 (s.trans s2)⟩
    · exact ⟨b, some u, rfl, g, p _ h2 _ H2 q2 (.bl _) rh2 (s.trans s2)⟩
theorem d_dget (z : dE ta ρ h fun x h1 => dE tb ρ h1 fun y h2 => ∃ d, DGetD h2 x y (some d) ∧ Q d h2) : dE (tDGet ta tb) ρ h Q := fun σ H Q' rl p =>
  z σ H _ rl fun x h1 v H1 q dx rh s => q σ H1 _ (rl.step rh s) fun y h2 w H2 ⟨d, i, q2⟩ dy rh2 s2 => by
    obtain ⟨b, rfl, k⟩ := i.at rh2 (dx.mono s2) dy
    rcases k with ⟨e, _⟩ | ⟨d', u, e, g, du⟩
    · cases e
    · cases e
      exact ⟨b, u, rfl, g, p _ h2 _ H2 q2 du rh2 (s.trans s2)⟩
theorem isD_of {H : Hp} {v : V} {x : D} {kds : List (Key × D)} (i : DkV h x kds) (r : RelH h H) (d : Dx (Fz h H) v x) : ∃ p, v = .ref p ∧ IsD H p := by
  obtain ⟨p, kvs, rfl, e, _⟩ := i.at r d
  exact ⟨p, rfl, .inl ⟨kvs, e⟩⟩
theorem isD_ofT {H : Hp} {v : V} {x : D} {kds : List (List Key × D)} (i : DtV h x kds) (r : RelH h H) (d : Dx (Fz h H) v x) : ∃ p, v = .ref p ∧ IsD H p := by
  obtain ⟨p, kvs, rfl, e, _⟩ := i.at r d
  exact ⟨p, rfl, .inr ⟨kvs, e⟩⟩
/-- a dict of either kind -/
def DV (h : Hs) (x : D) : Prop := (∃ kds, DkV h x kds) ∨ ∃ kds, DtV h x kds
theorem DV.at {H : Hp} {v : V} {x : D} (i : DV h x) (r : RelH h H) (d : Dx (Fz h H) v x) : ∃ p, v = .ref p ∧ IsD H p := by
  rcases i with ⟨k, i⟩ | ⟨k, i⟩
  · exact isD_of i r d
  · exact isD_ofT i r d
theorem d_dget2 (z : dE ta ρ h fun x h1 => DV h1 x ∧ dE tb ρ h1 fun y h2 => dE te ρ h2 fun w h3 => ∃ o, DGetD h3 x y o ∧ Q (o.getD w) h3) : dE (tDGet2 ta tb te) ρ h Q := fun σ H Q' rl p =>
  z σ H _ rl fun x h1 v H1 ⟨iv, q⟩ dx rh s => by
    obtain ⟨b, rfl, id1⟩ := iv.at rh dx
    refine ⟨b, rfl, id1, q σ H1 _ (rl.step rh s) fun y h2 w H2 q2 dy rh2 s2 => q2 σ H2 _ (rl.step rh2 (s.trans s2)) fun e h3 u H3 ⟨o, i, q3⟩ de rh3 s3 => ?_⟩
    obtain ⟨b', e', k⟩ := i.at rh3 (dx.mono (s2.trans s3)) (dy.mono s3)
    cases e'
    rcases k with ⟨rfl, g⟩ | ⟨d, u2, rfl, g, du⟩
    · exact ⟨none, g, p _ h3 _ H3 q3 de rh3 (s.trans (s2.trans s3))⟩
    · exact ⟨some u2, g, p _ h3 _ H3 q3 du rh3 (s.trans (s2.trans s3))⟩
theorem d_dget1 (z : dE ta ρ h fun x h1 => DV h1 x ∧ dE tb ρ h1 fun y h2 => ∃ o, DGetD h2 x y o ∧ Q (o.getD .non) h2) : dE (tDGet1 ta tb) ρ h Q := fun σ H Q' rl p =>
  z σ H _ rl fun x h1 v H1 ⟨iv, q⟩ dx rh s => by
    obtain ⟨b, rfl, id1⟩ := iv.at rh dx
    refine ⟨b, rfl, id1, q σ H1 _ (rl.step rh s) fun y h2 w H2 ⟨o, i, q2⟩ dy rh2 s2 => ?_⟩
    obtain ⟨b', e', k⟩ := i.at rh2 (dx.mono s2) dy
    cases e'
    rcases k with ⟨rfl, g⟩ | ⟨d, u2, rfl, g, du⟩
    · exact ⟨none, g, p _ h2 _ H2 q2 .non rh2 (s.trans s2)⟩
    · exact ⟨some u2, g, p _ h2 _ H2 q2 du rh2 (s.trans s2)⟩
/-- a store -/
inductive DPutD (h : Hs) (p : Addr) : D → D → Hs → Prop
  | k {kds : List (Key × D)} {k : Key} {d : D} : h p = some (.dK kds) → kds.length ≤ 100000 → DPutD h p (kD k) d (seth h p (.dK (dput kds k d)))
  | t {kds : List (List Key × D)} {k : List Key} {d : D} : h p = some (.dT kds) → kds.length ≤ 100000 → DPutD h p (.tup (k.map kD)) d (seth h p (.dT (dput kds k d)))
theorem DPutD.at {H : Hp} {v w : V} {p : Addr} {y d : D} {h' : Hs} (i : DPutD h p y d h') (r : RelH h H) (dy : Dx (Fz h H) w y) (dd : Dx (Fz h H) v d) : ∃ H', DPut H p w v H' ∧ RelH h' H' ∧ Sm h H h' H' := by
  have big : (100000 : Nat) < sizeLine := by decide
  cases i with
  | k e l =>
    obtain ⟨kvs, h1, h2, h3⟩ := r.cell p _ e
    have z : KDx (Fz h H) kvs _ := ⟨h2, h3⟩
    have := dx_key_inv dy
    subst this
    have zz := z.put (k := ‹Key›) dd
    obtain ⟨r2, s2⟩ := r.write (o := .dK (putK kvs ‹Key› v)) (c := .dK _) e (fun _ q => nomatch q) (fun q => nomatch q) ⟨_, upd_same, zz.ks, zz.vs⟩ (fun _ q => nomatch q)
    exact ⟨_, .inl ⟨kvs, _, h1, rfl, by rw [z.len]; omega, rfl⟩, r2, s2⟩
  | @t kds k _ e l =>
    obtain ⟨kvs, h1, h2, h3⟩ := r.cell p _ e
    have z : KDx (Fz h H) kvs _ := ⟨h2, h3⟩
    cases dy with
    | @tup q vs _ e4 a =>
      have := dxA_keys_inv a
      subst this
      have zz := z.put (k := k) dd
      obtain ⟨r2, s2⟩ := r.write (o := .dT (putK kvs k v)) (c := .dT _) e (fun _ q => nomatch q) (fun q => nomatch q) ⟨_, upd_same, zz.ks, zz.vs⟩ (fun _ q => nomatch q)
      exact ⟨_, .inr ⟨kvs, k, q, h1, rfl, (fz_some e4).2, by rw [z.len]; omega, rfl⟩, r2, s2⟩
theorem d_dput (z : dE tv ρ h fun d h1 => dE ta ρ h1 fun x h2 => dE tb ρ h2 fun y h3 => ∃ o h4, x = .ref o ∧ DPutD h3 o y d h4 ∧ E.nx ρ h4) : dS (sDPut ta tb tv) E ρ h := fun σ H E' rl p =>
  z σ H _ rl fun d h1 v H1 q dd rh s => q σ H1 _ (rl.step rh s) fun x h2 u H2 q2 dx rh2 s2 => q2 σ H2 _ (rl.step rh2 (s.trans s2)) fun y h3 w H3 ⟨o, h4, ex, i, q3⟩ dy rh3 s3 => by
    subst ex
    cases dx
    obtain ⟨H4, g, r4, s4⟩ := i.at rh3 dy (dd.mono (s2.trans s3))
    have sA := s.trans (s2.trans (s3.trans s4))
    exact ⟨o, H4, rfl, g, p.nx _ _ σ _ q3 (rl.step r4 sA) sA⟩
theorem d_daug {rd : V → V → Hp → VK → Prop} (z : dE ta ρ h fun x h1 => dE tb ρ h1 fun y h2 => ∃ o c, x = .ref o ∧ DGetD h2 x y (some c) ∧ dE tv ρ h2 fun e h3 => dR2 rd c e h3 fun r h4 => ∃ h5, DPutD h4 o y r h5 ∧ E.nx ρ h5) : dS (sDAug ta tb tv rd) E ρ h := fun σ H E' rl p =>
  z σ H _ rl fun x h1 u H1 q dx rh s => q σ H1 _ (rl.step rh s) fun y h2 w H2 ⟨o, c, ex, i, q2⟩ dy rh2 s2 => by
    obtain ⟨b, rfl, k⟩ := i.at rh2 (dx.mono s2) dy
    subst ex
    cases dx
    rcases k with ⟨e, _⟩ | ⟨d', u, e, g, du⟩
    · cases e
    · cases e
      refine ⟨o, u, rfl, g, q2 σ H2 _ (rl.step rh2 (s.trans s2)) fun e h3 v3 H3 q3 de rh3 s3 => ?_⟩
      refine q3 u v3 H3 _ rh3 (du.mono s3) de fun r h4 v4 H4 ⟨h5, pt, q4⟩ dr rh4 s4 => ?_
      obtain ⟨H5, g5, r5, s5⟩ := pt.at rh4 (dy.mono (s3.trans s4)) dr
      have sA := s.trans (s2.trans (s3.trans (s4.trans s5)))
      exact ⟨H5, g5, p.nx _ _ σ _ q4 (rl.step r5 sA) sA⟩
theorem d_dnewK (z : ∀ o, h o = none → Q (.ref o) (seth h o (.dK []))) : dE tDNewK ρ h Q := fun σ H Q' rl p o no => by
  obtain ⟨r2, s2⟩ := rl.rh.newC (o := .dK []) (c := .dK []) no ⟨[], upd_same, rfl, .nil⟩ (fun _ q => nomatch q)
  exact p _ _ _ _ (z o (rl.rh.no no)) (.ref o) r2 s2
theorem d_dnewT (z : ∀ o, h o = none → Q (.ref o) (seth h o (.dT []))) : dE tDNewT ρ h Q := fun σ H Q' rl p o no => by
  obtain ⟨r2, s2⟩ := rl.rh.newC (o := .dT []) (c := .dT []) no ⟨[], upd_same, rfl, .nil⟩ (fun _ q => nomatch q)
  exact p _ _ _ _ (z o (rl.rh.no no)) (.ref o) r2 s2
theorem d_dsetd (z : dE ta ρ h fun x h1 => (∃ kds, DkV h1 x kds) ∧ dE tb ρ h1 fun y h2 => dE te ρ h2 fun w h3 => ∃ o kds k, x = .ref o ∧ h3 o = some (.dK kds) ∧ y = kD k ∧ kds.length ≤ 100000 ∧
    (∀ d, dval kds k = some d → Q d h3) ∧ (dval kds k = none → Q w (seth h3 o (.dK (dput kds k w))))) : dE (tDSetd ta tb te) ρ h Q := fun σ H Q' rl p =>
  z σ H _ rl fun x h1 v H1 ⟨⟨kds0, iv⟩, q⟩ dx rh s => by
    obtain ⟨b, rfl, id1⟩ := isD_of iv rh dx
    refine ⟨b, rfl, id1, q σ H1 _ (rl.step rh s) fun y h2 w H2 q2 dy rh2 s2 => q2 σ H2 _ (rl.step rh2 (s.trans s2)) fun e h3 u H3 ⟨o, kds, k, ex, eo, ey, l, q3, q4⟩ de rh3 s3 => ?_⟩
    subst ex
    cases dx
    rw [ey] at dy
    have := dx_key_inv dy
    subst this
    obtain ⟨kvs, c1, c2, c3⟩ := rh3.cell _ _ eo
    have zz : KDx (Fz h3 H3) kvs kds := ⟨c2, c3⟩
    have big : (100000 : Nat) < sizeLine := by decide
    refine ⟨kvs, k, c1, rfl, by rw [zz.len]; omega, ?_, ?_⟩
    · intro v0 hv0
      rcases zz.val (k := k) with ⟨e1, e2⟩ | ⟨d, u2, e1, e2, du⟩
      · rw [e2] at hv0; cases hv0
      · rw [e2] at hv0
        cases hv0
        exact p _ h3 _ H3 (q3 d e1) du rh3 (s.trans (s2.trans s3))
    · intro hv0
      rcases zz.val (k := k) with ⟨e1, e2⟩ | ⟨d, u2, e1, e2, du⟩
      · have z5 := zz.put (k := k) de
        obtain ⟨r2, s4⟩ := rh3.write (o := .dK (putK kvs k u)) (c := .dK (dput kds k e)) eo (fun _ q => nomatch q) (fun q => nomatch q) ⟨_, upd_same, z5.ks, z5.vs⟩ (fun _ q => nomatch q)
        exact p _ _ _ _ (q4 e1) (de.mono s4) r2 (s.trans (s2.trans (s3.trans s4)))
      · rw [e2] at hv0; cases hv0
/-! ### while -/
theorem d_while {c : TT} (W : Nat → Rho → Hs → Prop) (m0 : Nat) (w0 : W m0 ρ h)
    (hs : ∀ m ρ h, W m ρ h → dT c ρ h fun b h1 => if b = true then dS t { E with nx := fun ρ h => ∃ m', m' < m ∧ W m' ρ h, ct := fun ρ h => ∃ m', m' < m ∧ W m' ρ h, bk := E.nx } ρ h1 else dS tNext E ρ h1) : dS (tWhile c t) E ρ h := fun σ H E' rl p => by
  refine ⟨fun m σ' H' => ∃ ρ' h', W m ρ' h' ∧ Rel ρ' h' σ' H' ∧ Sm h H h' H', ⟨m0, ρ, h, w0, rl, Same.refl _⟩, ?_⟩
  rintro m σ1 H1 ⟨ρ1, h1, w1, r1, s1⟩
  refine hs m ρ1 h1 w1 σ1 H1 _ r1 fun b h2 H2 q rh2 s2 => ?_
  have r2 := r1.step rh2 s2
  have s02 : Sm h H h2 H2 := s1.trans s2
  cases b with
  | true =>
    refine ⟨fun σ' H' => ∃ m', m' < m ∧ ∃ ρ' h', W m' ρ' h' ∧ Rel ρ' h' σ' H' ∧ Sm h H h' H', fun σ' H' z => z, ?_⟩
    have cont : PostS h2 H2 (fun ρ h => ∃ m', m' < m ∧ W m' ρ h) (fun σ' H' => ∃ m', m' < m ∧ ∃ ρ' h', W m' ρ' h' ∧ Rel ρ' h' σ' H' ∧ Sm h H h' H') :=
      fun ρ3 h3 σ3 H3 ⟨m', l, w3⟩ r3 s3 => ⟨m', l, ρ3, h3, w3, r3, s02.trans s3⟩
    exact q σ1 H2 _ r2 ⟨cont, p.rt.step s02, p.nx.step s02, cont⟩
  | false => exact q σ1 H2 E' r2 (p.step s02)
end
end GX

set_option Elab.async false
set_option linter.all false
set_option maxRecDepth 100000
set_option maxHeartbeats 4000000
namespace GX
open PySem L2 PySem.Spec
section
variable {ρ : Rho} {h : Hs} {Q : QD} {E : DEnds} {K : PySem.W.Frag} {x y z d : D} {i j : Int} {xs ys ds es : List D}
theorem post_id {H : Hp} {Q' : VK} {v : V} (p : Post h H Q Q') (r : RelH h H) (x : Dx (Fz h H) v d) (q : Q d h) : Q' v H := p d h v H q x r (Same.refl _)
/-- a new object of data -/
theorem post_new {H : Hp} {Q' : VK} {o : HO} {a : Addr} (p : Post h H Q Q') (r : RelH h H) (n : H a = none) (x : ∀ G, Same (Fz h H) G → G a = some o → Dx G (.ref a) d) (q : Q d h) : Q' (.ref a) (upd H a o) := by
  obtain ⟨r1, s1⟩ := r.newF (o := o) n
  exact p d h _ _ q (x _ s1 (by rw [fz_new r n, upd_same])) r1 s1
theorem post_newL {H : Hp} {Q' : VK} {vs : List V} {a : Addr} (p : Post h H Q Q') (r : RelH h H) (n : H a = none) (x : DxA (Fz h H) vs ds) (q : Q (.lst ds) h) : Q' (.ref a) (upd H a (.lst vs)) :=
  post_new p r n (fun G s e => .lst e (x.mono s)) q
theorem post_newT {H : Hp} {Q' : VK} {vs : List V} {a : Addr} (p : Post h H Q Q') (r : RelH h H) (n : H a = none) (x : DxA (Fz h H) vs ds) (q : Q (.tup ds) h) : Q' (.ref a) (upd H a (.tup vs)) :=
  post_new p r n (fun G s e => .tup e (x.mono s)) q
/-- a new list as a cell -/
theorem post_newC {H : Hp} {Q' : VK} {vs : List V} {a : Addr} (p : Post h H Q Q') (r : RelH h H) (n : H a = none) (x : DxA (Fz h H) vs ds) (q : ∀ a, h a = none → Q (.ref a) (seth h a (.lst ds))) : Q' (.ref a) (upd H a (.lst vs)) := by
  obtain ⟨r1, s1⟩ := r.newC (o := .lst vs) (c := .lst ds) n ⟨vs, upd_same, x⟩ (fun _ e => nomatch e)
  exact p _ _ _ _ (q a (r.no n)) (.ref a) r1 s1
theorem Fresh.f (q : Q (.lst ds) h) : Fresh ds h Q := .inl q
theorem Fresh.c (q : ∀ a, h a = none → Q (.ref a) (seth h a (.lst ds))) : Fresh ds h Q := .inr q
theorem Fresh.post {H : Hp} {Q' : VK} {vs : List V} {a : Addr} (f : Fresh ds h Q) (p : Post h H Q Q') (r : RelH h H) (n : H a = none) (x : DxA (Fz h H) vs ds) : Q' (.ref a) (upd H a (.lst vs)) := by
  rcases f with q | q
  · exact post_newL p r n x q
  · exact post_newC p r n x q
/-- a fresh cell handed out -/
theorem Fresh.frz {a : Addr} (f : Fresh ds h Q) (n : h a = none) : ∃ y h2, Frz (seth h a (.lst ds)) (.ref a) y h2 ∧ Q y h2 := by
  rcases f with q | q
  · exact ⟨.lst ds, h, by have := Frz.lst (h := seth h a (.lst ds)) (p := a) seth_same FrzA.id; rwa [delh_seth n] at this, q⟩
  · exact ⟨_, _, .id, q a n⟩
/-! ### numbers -/
theorem v_I0i {g : Int → Int → Int} (q : Q (.int (g i j)) h) : dR2 (rI0 fun i j => .int (g i j)) (.int i) (.int j) h Q := fun v w H Q' r dx dy p => by
  cases dx; cases dy; exact ⟨i, j, rfl, rfl, post_id p r (.int _) q⟩
theorem v_I0b {g : Int → Int → Bool} (q : Q (.bl (g i j)) h) : dR2 (rI0 fun i j => .bl (g i j)) (.int i) (.int j) h Q := fun v w H Q' r dx dy p => by
  cases dx; cases dy; exact ⟨i, j, rfl, rfl, post_id p r (.bl _) q⟩
theorem v_Ii {C : Int → Int → Prop} {g : Int → Int → Int} (c : C i j) (q : Q (.int (g i j)) h) : dR2 (rI C fun i j => .int (g i j)) (.int i) (.int j) h Q := fun v w H Q' r dx dy p => by
  cases dx; cases dy; exact ⟨i, j, rfl, rfl, c, post_id p r (.int _) q⟩
theorem v_Ui {g : Int → Int} (q : Q (.int (g i)) h) : dR (rU fun i => .int (g i)) (.int i) h Q := fun v H Q' r dx p => by
  cases dx; exact ⟨i, rfl, post_id p r (.int _) q⟩
/-! ### == of scalars -/
theorem v_eqI (q : Q (.bl (decide (i = j))) h) : dR2 rEq (.int i) (.int j) h Q := fun v w H Q' r dx dy p => by
  cases dx; cases dy
  refine ⟨rfl, post_id p r (.bl _) ?_⟩
  rw [show decide (V.int i = V.int j) = decide (i = j) from by simp]; exact q
theorem v_eqS {a b : Str} (q : Q (.bl (decide (a = b))) h) : dR2 rEq (.str a) (.str b) h Q := fun v w H Q' r dx dy p => by
  cases dx; cases dy
  refine ⟨rfl, post_id p r (.bl _) ?_⟩
  rw [show decide (V.str a = V.str b) = decide (a = b) from by simp]; exact q
theorem v_eqB {a b : Bool} (q : Q (.bl (decide (a = b))) h) : dR2 rEq (.bl a) (.bl b) h Q := fun v w H Q' r dx dy p => by
  cases dx; cases dy
  refine ⟨rfl, post_id p r (.bl _) ?_⟩
  rw [show decide (V.bl a = V.bl b) = decide (a = b) from by simp]; exact q
theorem v_neI (q : Q (.bl (!decide (i = j))) h) : dR2 rNe (.int i) (.int j) h Q := fun v w H Q' r dx dy p => by
  cases dx; cases dy
  refine ⟨rfl, post_id p r (.bl _) ?_⟩
  rw [show decide (V.int i = V.int j) = decide (i = j) from by simp]; exact q
theorem v_neS {a b : Str} (q : Q (.bl (!decide (a = b))) h) : dR2 rNe (.str a) (.str b) h Q := fun v w H Q' r dx dy p => by
  cases dx; cases dy
  refine ⟨rfl, post_id p r (.bl _) ?_⟩
  rw [show decide (V.str a = V.str b) = decide (a = b) from by simp]; exact q
theorem v_neB {a b : Bool} (q : Q (.bl (!decide (a = b))) h) : dR2 rNe (.bl a) (.bl b) h Q := fun v w H Q' r dx dy p => by
  cases dx; cases dy
  refine ⟨rfl, post_id p r (.bl _) ?_⟩
  rw [show decide (V.bl a = V.bl b) = decide (a = b) from by simp]; exact q
def isNonD : D → Bool
  | .non => true
  | _ => false
theorem isNonD_v {G : Hp} {v : V} (dx : Dx G v x) : decide (v = .non) = isNonD x := by cases dx <;> simp [isNonD]
theorem v_isN (q : Q (.bl (isNonD x)) h) : dR2 (fun x y H Q => y = .non ∧ Q (.bl (decide (x = .non))) H) x .non h Q := fun v w H Q' r dx dy p => by
  cases dy
  exact ⟨rfl, post_id p r (.bl _) (by rw [isNonD_v dx]; exact q)⟩
theorem v_notN (q : Q (.bl (!isNonD x)) h) : dR2 (fun x y H Q => y = .non ∧ Q (.bl (!decide (x = .non))) H) x .non h Q := fun v w H Q' r dx dy p => by
  cases dy
  exact ⟨rfl, post_id p r (.bl _) (by rw [isNonD_v dx]; exact q)⟩
/-! ### lists seen -/
def LsV (h : Hs) (x : D) (ds : List D) : Prop := x = .lst ds ∨ ∃ p, x = .ref p ∧ h p = some (.lst ds)
theorem LsV.f : LsV h (.lst ds) ds := .inl rfl
theorem LsV.c {p : Addr} (e : h p = some (.lst ds)) : LsV h (.ref p) ds := .inr ⟨p, rfl, e⟩
theorem LsV.at {H : Hp} {v : V} (i : LsV h x ds) (r : RelH h H) (d : Dx (Fz h H) v x) : ∃ p vs, v = .ref p ∧ H p = some (.lst vs) ∧ DxA (Fz h H) vs ds := by
  rcases i with rfl | ⟨p, rfl, e⟩
  · cases d with
    | lst e a => exact ⟨_, _, rfl, (fz_some e).2, a⟩
  · cases d
    obtain ⟨vs, h1, h2⟩ := r.cell p _ e
    exact ⟨p, vs, rfl, h1, h2⟩
theorem tup_at {H : Hp} {v : V} (d : Dx (Fz h H) v (.tup ds)) : ∃ p vs, v = .ref p ∧ H p = some (.tup vs) ∧ DxA (Fz h H) vs ds := by
  cases d with
  | tup e a => exact ⟨_, _, rfl, (fz_some e).2, a⟩
theorem atI_dx {G : Hp} {vs : List V} (a : DxA G vs ds) (e : atI ds i = some d) : ∃ v, atI vs i = some v ∧ Dx G v d := by
  unfold atI at e ⊢
  rw [a.len]
  cases q : ixN ds.length i with
  | none => rw [q] at e; cases e
  | some j => rw [q] at e; exact a.get e
theorem v_ixL (hv : LsV h x ds) (e : atI ds i = some d) (q : Q d h) : dR2 (rIxL K) x (.int i) h Q := fun v w H Q' r dx dy p => by
  cases dy
  obtain ⟨a, vs, rfl, e1, a1⟩ := hv.at r dx
  obtain ⟨u, e2, du⟩ := atI_dx a1 e
  exact ⟨a, vs, i, u, rfl, rfl, .of e1, e2, post_id p r du q⟩
theorem v_ixT (e : atI ds i = some d) (q : Q d h) : dR2 (rIxT K) (.tup ds) (.int i) h Q := fun v w H Q' r dx dy p => by
  cases dy
  obtain ⟨a, vs, rfl, e1, a1⟩ := tup_at dx
  obtain ⟨u, e2, du⟩ := atI_dx a1 e
  exact ⟨a, vs, i, u, rfl, rfl, .of e1, e2, post_id p r du q⟩
theorem v_ixS {s : Str} {c : Nat} (hl : s.length ≤ 1000000) (e : atI s.cps.toList i = some c) (q : Q (.str ⟨#[c]⟩) h) : dR2 rIxS (.str s) (.int i) h Q := fun v w H Q' r dx dy p => by
  cases dx; cases dy
  exact ⟨s, i, c, rfl, rfl, Nat.le_trans hl (by decide), e, post_id p r (.str _) q⟩
theorem v_ix1 (z : dR2 (rIxL K) x y h Q) : dR2 (rIx K) x y h Q := fun v w H Q' r dx dy p => .inl (z v w H Q' r dx dy p)
theorem v_ix2 (z : dR2 (rIxT K) x y h Q) : dR2 (rIx K) x y h Q := fun v w H Q' r dx dy p => .inr (.inl (z v w H Q' r dx dy p))
theorem v_ix3 (z : dR2 rIxS x y h Q) : dR2 (rIx K) x y h Q := fun v w H Q' r dx dy p => .inr (.inr (z v w H Q' r dx dy p))
/-- xs[i] = v as a target -/
theorem g_sub {to ti : TE} {N : Rho → Hs → Prop} (z : dE to ρ h fun o h1 => dE ti ρ h1 fun k h2 => ∃ p ds i j, o = .ref p ∧ k = .int i ∧ h2 p = some (.lst ds) ∧ ixN ds.length i = some j ∧ N ρ (seth h2 p (.lst (ds.set j x)))) : dG [] (gSub to ti rSetL) x ρ h N := fun σ H v N' rl dv p =>
  z σ H _ rl fun o h1 u H1 q du rh s => q σ H1 _ (rl.step rh s) fun k h2 w H2 ⟨b, ds, i, j, eo, ek, e, ej, q2⟩ dw rh2 s2 => by
    subst eo ek
    cases du; cases dw
    obtain ⟨vs, e1, a1⟩ := rh2.cell b _ e
    obtain ⟨r3, s3⟩ := rh2.write (o := .lst (vs.set j v)) (c := .lst (ds.set j x)) e (fun _ q => nomatch q) (fun q => nomatch q) ⟨_, upd_same, a1.set (dv.mono (s.trans s2)) j⟩ (fun _ q => nomatch q)
    exact ⟨b, vs, i, j, rfl, rfl, e1, by rw [a1.len]; exact ej, p _ _ σ _ q2 (rl.step r3 (s.trans (s2.trans s3))) (s.trans (s2.trans s3)) rfl fun _ _ => rfl⟩
/-! ### slices -/
def dO (t : TO) (ρ : Rho) (h : Hs) (R : Option Int → Hs → Prop) : Prop := ∀ σ H (R' : Option Int → Hp → Prop), Rel ρ h σ H → (∀ i h' H', R i h' → RelH h' H' → Sm h H h' H' → R' i H') → t σ H R'
def dRS (r : V → Option Int → Option Int → Hp → VK → Prop) (x : D) (l u : Option Int) (h : Hs) (Q : QD) : Prop := ∀ v H Q', RelH h H → Dx (Fz h H) v x → Post h H Q Q' → r v l u H Q'
theorem d_part {te : TE} {R : Option Int → Hs → Prop} (z : dE te ρ h fun x h1 => ∃ i, x = .int i ∧ R (some i) h1) : dO (tPart te) ρ h R := fun σ H R' rl p =>
  z σ H _ rl fun x h1 v H1 q dx rh s => by obtain ⟨i, rfl, q⟩ := q; cases dx; exact ⟨i, rfl, p _ h1 H1 q rh s⟩
theorem d_nopart {R : Option Int → Hs → Prop} (z : R none h) : dO tNoPart ρ h R := fun σ H R' rl p => p none h H z rl.rh (Same.refl _)
theorem d_sl {f : V → Option Int → Option Int → Hp → VK → Prop} {te : TE} {tl th : TO} (z : dE te ρ h fun x h1 => dO tl ρ h1 fun l h2 => dO th ρ h2 fun u h3 => dRS f x l u h3 Q) : dE (tSl f te tl th) ρ h Q := fun σ H Q' rl p =>
  z σ H _ rl fun x h1 v H1 q dx rh s => q σ H1 _ (rl.step rh s) fun l h2 H2 q2 rh2 s2 => q2 σ H2 _ (rl.step rh2 (s.trans s2)) fun u h3 H3 q3 rh3 s3 => q3 v H3 Q' rh3 (dx.mono (s2.trans s3)) (p.step (s.trans (s2.trans s3)))
def dcut {α : Type} (xs : List α) (lo hi : Option Int) : List α := (xs.drop (HT.sIx xs.length 0 lo)).take (HT.sIx xs.length xs.length hi - HT.sIx xs.length 0 lo)
theorem dcut_dx {G : Hp} {vs : List V} (a : DxA G vs ds) (l u : Option Int) : DxA G (cutV vs l u) (dcut ds l u) := by
  unfold cutV dcut
  rw [a.len]
  exact (a.drop _).take _
theorem v_slL {l u : Option Int} (hv : LsV h x ds) (q : Fresh (dcut ds l u) h Q) : dRS (rSlL K) x l u h Q := fun v H Q' r dx p => by
  obtain ⟨a, vs, rfl, e1, a1⟩ := hv.at r dx
  exact ⟨a, vs, rfl, .of e1, fun b nb => q.post p r nb (dcut_dx a1 l u)⟩
theorem v_slA {l u : Option Int} (q : Q (.tup (dcut ds l u)) h) : dRS (rSlA K) (.tup ds) l u h Q := fun v H Q' r dx p => by
  obtain ⟨a, vs, rfl, e1, a1⟩ := tup_at dx
  refine ⟨a, vs, rfl, .of e1, fun hw => ?_, fun _ b nb => post_newT p r nb (dcut_dx a1 l u) q⟩
  have : dcut ds l u = ds := by
    rw [a1.len] at hw
    unfold dcut
    rw [hw.1, hw.2, List.drop_zero, Nat.sub_zero, List.take_length]
  rw [this] at q
  exact post_id p r dx q
theorem v_slS {l u : Option Int} {s : Str} (hl : s.length ≤ 1000000) (q : Q (.str (cutS s l u)) h) : dRS rSlS (.str s) l u h Q := fun v H Q' r dx p => by
  cases dx
  exact ⟨s, rfl, Nat.le_trans hl (by decide), post_id p r (.str _) q⟩
/-! ### in -/
def SqV (h : Hs) (x : D) (ds : List D) : Prop := LsV h x ds ∨ x = .tup ds
theorem SqV.at {H : Hp} {v : V} (i : SqV h x ds) (r : RelH h H) (d : Dx (Fz h H) v x) : ∃ p vs, v = .ref p ∧ (SqL K H p vs ∨ SqT K H p vs) ∧ DxA (Fz h H) vs ds := by
  rcases i with i | rfl
  · obtain ⟨p, vs, rfl, e, a⟩ := i.at r d
    exact ⟨p, vs, rfl, .inl (.of e), a⟩
  · obtain ⟨p, vs, rfl, e, a⟩ := tup_at d
    exact ⟨p, vs, rfl, .inr (.of e), a⟩
theorem SqV.l : SqV h (.lst ds) ds := .inl .f
theorem SqV.c {p : Addr} (e : h p = some (.lst ds)) : SqV h (.ref p) ds := .inl (.c e)
theorem SqV.t : SqV h (.tup ds) ds := .inr rfl
theorem v_inS {neg : Bool} {a : Str} {zs : List Str} (hv : SqV h x (zs.map .str)) (q : Q (.bl (if neg then !decide (a ∈ zs) else decide (a ∈ zs))) h) : dR2 (rIn K neg) (.str a) x h Q := fun v w H Q' r dx dy p => by
  cases dx
  obtain ⟨b, vs, rfl, e1, a1⟩ := hv.at r dy
  have := a1.strs_inv
  subst this
  exact ⟨b, _, rfl, e1, rfl, flat_strs zs, post_id p r (.bl _) (by rw [inV_strs]; exact q)⟩
theorem inV_ints (z : Int) (zs : List Int) : inV (.int z) (zs.map V.int) = decide (z ∈ zs) := by
  unfold inV
  rw [List.any_map]
  by_cases h : z ∈ zs
  · rw [decide_eq_true h]
    exact List.any_eq_true.mpr ⟨z, h, by simp [eqV]⟩
  · rw [decide_eq_false h]
    refine List.any_eq_false.mpr fun y hy => ?_
    have : ¬ y = z := fun q => h (q ▸ hy)
    simp [eqV, this]
theorem flat_ints (zs : List Int) : (zs.map V.int).all flatV = true := by
  rw [List.all_map]
  exact List.all_eq_true.mpr fun _ _ => rfl
theorem v_inI {neg : Bool} {a : Int} {zs : List Int} (hv : SqV h x (zs.map .int)) (q : Q (.bl (if neg then !decide (a ∈ zs) else decide (a ∈ zs))) h) : dR2 (rIn K neg) (.int a) x h Q := fun v w H Q' r dx dy p => by
  cases dx
  obtain ⟨b, vs, rfl, e1, a1⟩ := hv.at r dy
  have := a1.ints_inv
  subst this
  exact ⟨b, _, rfl, e1, rfl, flat_ints zs, post_id p r (.bl _) (by rw [inV_ints]; exact q)⟩
theorem v_inSign {c : Nat} {s : Str} (q : Q (.bl (decide (c ∈ s.cps.toList))) h) : dR2 (fun x y H Q => ∃ (c : Nat) (z : Str), x = .str ⟨#[c]⟩ ∧ y = .str z ∧ Q (.bl (decide (c ∈ z.cps.toList))) H) (.str ⟨#[c]⟩) (.str s) h Q := fun v w H Q' r dx dy p => by
  cases dx; cases dy
  exact ⟨c, s, rfl, rfl, post_id p r (.bl _) q⟩
/-! ### lengths, lists made of others -/
theorem v_lenQ (hv : SqV h x ds) (q : Q (.int ds.length) h) : dRA (rLenQ K) [x] h Q := fun vs H Q' r dx p => by
  cases dx with
  | cons dx dn =>
    cases dn
    obtain ⟨b, vs, rfl, e1, a1⟩ := hv.at r dx
    exact ⟨b, vs, rfl, e1, post_id p r (.int _) (by rw [a1.len]; exact q)⟩
theorem v_lenG (hv : SqV h x ds) (q : Q (.int ds.length) h) : dRA (rLenG K) [x] h Q := fun vs H Q' r dx p => by
  cases dx with
  | cons dx dn =>
    cases dn
    obtain ⟨b, vs, rfl, e1, a1⟩ := SqV.at (K := K) hv r dx
    refine ⟨_, vs.length, rfl, ?_, post_id p r (.int _) (by rw [a1.len]; exact q)⟩
    rcases e1 with e1 | e1
    · exact .inl ⟨vs, e1, rfl⟩
    · exact .inr ⟨vs, e1, rfl⟩
theorem v_lenGS {s : Str} (hl : s.length ≤ 1000000) (q : Q (.int s.length) h) : dRA (rLenG K) [.str s] h Q := fun vs H Q' r dx p => by
  cases dx with
  | cons dx dn =>
    cases dn; cases dx
    exact ⟨_, s.length, rfl, ⟨Nat.le_trans hl (by decide), rfl⟩, post_id p r (.int _) q⟩
theorem v_lenD {kds : List (Key × D)} (hv : DkV h x kds) (hu : ∀ H (v : V), RelH h H → Dx (Fz h H) v x → ∃ p kvs, v = .ref p ∧ H p = some (.dK kvs) ∧ kvs.length = kds.length) (q : Q (.int kds.length) h) : dRA rLenD [x] h Q := fun vs H Q' r dx p => by
  cases dx with
  | cons dx dn =>
    cases dn
    obtain ⟨b, kvs, rfl, e, l⟩ := hu H _ r dx
    exact ⟨b, kvs, rfl, e, post_id p r (.int _) (by rw [l]; exact q)⟩
theorem dkc_len {p : Addr} {kds : List (Key × D)} (e : h p = some (.dK kds)) : ∀ H (v : V), RelH h H → Dx (Fz h H) v (.ref p) → ∃ p kvs, v = .ref p ∧ H p = some (.dK kvs) ∧ kvs.length = kds.length := fun H v r d => by
  cases d
  obtain ⟨kvs, h1, h2, h3⟩ := r.cell p _ e
  exact ⟨p, kvs, rfl, h1, KDx.len ⟨h2, h3⟩⟩
theorem v_lenS {s : Str} (hl : s.length ≤ 1000000) (q : Q (.int s.length) h) : dRA (fun xs H Q => ∃ z, xs = [.str z] ∧ z.length ≤ sizeLine ∧ Q (.int z.length) H) [.str s] h Q := fun vs H Q' r dx p => by
  cases dx with
  | cons dx dn =>
    cases dn; cases dx
    exact ⟨s, rfl, Nat.le_trans hl (by decide), post_id p r (.int _) q⟩
theorem v_listOf (hv : SqV h x ds) (q : Fresh ds h Q) : dRA (rListOf K) [x] h Q := fun vs H Q' r dx p => by
  cases dx with
  | cons dx dn =>
    cases dn
    obtain ⟨b, vs, rfl, e1, a1⟩ := hv.at r dx
    exact ⟨b, vs, rfl, e1, fun l nl => q.post p r nl a1⟩
theorem v_tupOf (hv : SqV h x ds) (q : Q (.tup ds) h) : dRA (rTupOf K) [x] h Q := fun vs H Q' r dx p => by
  cases dx with
  | cons dx dn =>
    cases dn
    rcases hv with i | rfl
    · obtain ⟨b, vs, rfl, e, a1⟩ := i.at r dx
      exact ⟨b, vs, rfl, .inl ⟨.of e, fun l nl => post_newT p r nl a1 q⟩⟩
    · obtain ⟨b, vs, rfl, e, a1⟩ := tup_at dx
      exact ⟨b, vs, rfl, .inr ⟨.of e, post_id p r dx q⟩⟩
theorem v_sum {ns : List Int} (hv : LsV h x (ns.map .int)) (q : Q (.int ns.sum) h) : dRA (rSum K) [x] h Q := fun vs H Q' r dx p => by
  cases dx with
  | cons dx dn =>
    cases dn
    obtain ⟨b, vs, rfl, e1, a1⟩ := hv.at r dx
    have := a1.ints_inv
    subst this
    exact ⟨b, ns, rfl, .of e1, post_id p r (.int _) q⟩
theorem v_all {bs : List Bool} (hv : LsV h x (bs.map .bl)) (q : Q (.bl (bs.all id)) h) : dRA (rAll K) [x] h Q := fun vs H Q' r dx p => by
  cases dx with
  | cons dx dn =>
    cases dn
    obtain ⟨b, vs, rfl, e1, a1⟩ := hv.at r dx
    have := a1.bls_inv
    subst this
    exact ⟨b, bs, rfl, .of e1, post_id p r (.bl _) q⟩
theorem v_any {bs : List Bool} (hv : LsV h x (bs.map .bl)) (q : Q (.bl (bs.any id)) h) : dRA (rAny K) [x] h Q := fun vs H Q' r dx p => by
  cases dx with
  | cons dx dn =>
    cases dn
    obtain ⟨b, vs, rfl, e1, a1⟩ := hv.at r dx
    have := a1.bls_inv
    subst this
    exact ⟨b, bs, rfl, .of e1, post_id p r (.bl _) q⟩
theorem v_sortedI {ns : List Int} (hv : LsV h x (ns.map .int)) (q : ∀ ms : List Int, ms.Perm ns → ms.Pairwise (· ≤ ·) → Fresh (ms.map .int) h Q) : dRA (rSortedI K) [x] h Q := fun vs H Q' r dx p => by
  cases dx with
  | cons dx dn =>
    cases dn
    obtain ⟨b, vs, rfl, e1, a1⟩ := hv.at r dx
    have := a1.ints_inv
    subst this
    exact ⟨b, ns, rfl, .of e1, fun ms l pm pw nl => (q ms pm pw).post p r nl (DxA.ints ms)⟩
theorem v_max2 (q : Q (.int (if j > i then j else i)) h) : dRA (fun xs H Q => ∃ i j, xs = [.int i, .int j] ∧ Q (.int (if j > i then j else i)) H) [.int i, .int j] h Q := fun vs H Q' r dx p => by
  cases dx with
  | cons d1 dx =>
    cases dx with
    | cons d2 dx => cases dx; cases d1; cases d2; exact ⟨i, j, rfl, post_id p r (.int _) q⟩
theorem v_min2 (q : Q (.int (if j < i then j else i)) h) : dRA (fun xs H Q => ∃ i j, xs = [.int i, .int j] ∧ Q (.int (if j < i then j else i)) H) [.int i, .int j] h Q := fun vs H Q' r dx p => by
  cases dx with
  | cons d1 dx =>
    cases dx with
    | cons d2 dx => cases dx; cases d1; cases d2; exact ⟨i, j, rfl, post_id p r (.int _) q⟩
theorem v_int1 (q : Q (.int i) h) : dRA (fun xs H Q => (∃ i, xs = [.int i] ∧ Q (.int i) H) ∨ ∃ k, xs = [.bl k] ∧ Q (.int (if k then 1 else 0)) H) [.int i] h Q := fun vs H Q' r dx p => by
  cases dx with
  | cons d1 dx => cases dx; cases d1; exact .inl ⟨i, rfl, post_id p r (.int _) q⟩
theorem v_int1b {k : Bool} (q : Q (.int (if k then 1 else 0)) h) : dRA (fun xs H Q => (∃ i, xs = [.int i] ∧ Q (.int i) H) ∨ ∃ k, xs = [.bl k] ∧ Q (.int (if k then 1 else 0)) H) [.bl k] h Q := fun vs H Q' r dx p => by
  cases dx with
  | cons d1 dx => cases dx; cases d1; exact .inr ⟨k, rfl, post_id p r (.int _) q⟩
theorem v_abs (q : Q (.int (if i < 0 then -i else i)) h) : dRA (fun xs H Q => ∃ i, xs = [.int i] ∧ Q (.int (if i < 0 then -i else i)) H) [.int i] h Q := fun vs H Q' r dx p => by
  cases dx with
  | cons d1 dx => cases dx; cases d1; exact ⟨i, rfl, post_id p r (.int _) q⟩
/-! ### texts -/
theorem v_addS {a b : Str} (hl : a.length + b.length ≤ 1000000) (q : Q (.str (a ++ b)) h) : dR2 (fun x y H Q => ∃ i j, x = .str i ∧ y = .str j ∧ i.length + j.length ≤ sizeLine ∧ Q (.str (i ++ j)) H) (.str a) (.str b) h Q := fun v w H Q' r dx dy p => by
  cases dx; cases dy
  exact ⟨a, b, rfl, rfl, Nat.le_trans hl (by decide), post_id p r (.str _) q⟩
theorem d_M1 {f : V → List V → Hp → VK → Prop} {to te : TE} (z : dE to ρ h fun x h1 => ∃ a, x = .str a ∧ dE te ρ h1 fun y h2 => dRM f (.str a) [y] h2 Q) : dE (tM1 f to te) ρ h Q := fun σ H Q' rl p =>
  z σ H _ rl fun x h1 v H1 ⟨a, ex, q⟩ dx rh s => by
    subst ex; cases dx
    exact ⟨⟨a, rfl⟩, q σ H1 _ (rl.step rh s) fun y h2 w H2 q2 dy rh2 s2 => q2 _ _ H2 Q' rh2 (.str a) (.one dy) (p.step (s.trans s2))⟩
theorem d_M0 {f : V → List V → Hp → VK → Prop} {to : TE} (z : dE to ρ h fun x h1 => ∃ a, x = .str a ∧ dRM f (.str a) [] h1 Q) : dE (tM0 f to) ρ h Q := fun σ H Q' rl p =>
  z σ H _ rl fun x h1 v H1 ⟨a, ex, q⟩ dx rh s => by
    subst ex; cases dx
    exact ⟨⟨a, rfl⟩, q _ _ H1 Q' rh (.str a) .nil (p.step s)⟩
theorem v_join {a : Str} {zs : List Str} (hv : SqV h x (zs.map .str)) (hl : (zs.map (·.length)).sum + zs.length * a.length ≤ 16777216) (q : Q (.str (Txt.join a zs)) h) : dRM (rJoin K) (.str a) [x] h Q := fun v vs H Q' r dx dxs p => by
  cases dx
  cases dxs with
  | cons d1 d2 =>
    cases d2
    obtain ⟨b, vs, rfl, e1, a1⟩ := SqV.at (K := K) hv r d1
    have := a1.strs_inv
    subst this
    exact ⟨a, b, zs, rfl, rfl, e1, hl, post_id p r (.str _) q⟩
/-! ### methods of lists -/
theorem d_BML {T : String} {f : V → List V → Hp → VK → Prop} {to : TE} {t : TA} (hT : T = "list") (z : dE to ρ h fun x h1 => (∃ ds, LsV h1 x ds) ∧ dA t ρ h1 fun xs h2 => dRM f x xs h2 Q) : dE (tBM K T f to t) ρ h Q := fun σ H Q' rl p =>
  z σ H _ rl fun x h1 v H1 ⟨⟨ds, i⟩, q⟩ dx rh s => by
    obtain ⟨b, vs, rfl, e1, a1⟩ := i.at rh dx
    exact ⟨.inl ⟨hT, vs, .of e1⟩, q σ H1 _ (rl.step rh s) fun xs h2 ws H2 q2 dxs rh2 s2 => q2 _ ws H2 Q' rh2 (dx.mono s2) dxs (p.step (s.trans s2))⟩
theorem d_BML0 {T : String} {f : V → List V → Hp → VK → Prop} {to : TE} (hT : T = "list") (z : dE to ρ h fun x h1 => (∃ ds, LsV h1 x ds) ∧ dRM f x [] h1 Q) : dE (tBM0 K T f to) ρ h Q := fun σ H Q' rl p =>
  z σ H _ rl fun x h1 v H1 ⟨⟨ds, i⟩, q⟩ dx rh s => by
    obtain ⟨b, vs, rfl, e1, a1⟩ := i.at rh dx
    exact ⟨.inl ⟨hT, vs, .of e1⟩, q _ [] H1 Q' rh dx .nil (p.step s)⟩
theorem v_app {a : Addr} (e : h a = some (.lst xs)) (hl : xs.length ≤ 1000000) (q : Q .non (seth h a (.lst (xs ++ [y])))) : dRM rAppend (.ref a) [y] h Q := fun v vs H Q' r dx dxs p => by
  cases dx
  cases dxs with
  | cons d1 d2 =>
    cases d2
    obtain ⟨us, e1, a1⟩ := r.cell a _ e
    obtain ⟨r3, s3⟩ := r.write (o := .lst (us ++ [_])) (c := .lst (xs ++ [y])) e (fun _ q => nomatch q) (fun q => nomatch q) ⟨_, upd_same, a1.app (.one d1)⟩ (fun _ q => nomatch q)
    exact ⟨a, us, _, rfl, rfl, e1, Nat.lt_of_le_of_lt (by rw [a1.len]; exact hl) (by decide), p _ _ _ _ q .non r3 s3⟩
theorem v_insert {a : Addr} (e : h a = some (.lst xs)) (hl : xs.length ≤ 1000000) (h0 : 0 ≤ i ∧ i < 2 ^ 63) (q : Q .non (seth h a (.lst (xs.take i.toNat ++ [y] ++ xs.drop i.toNat)))) : dRM rInsert (.ref a) [.int i, y] h Q := fun v vs H Q' r dx dxs p => by
  cases dx
  cases dxs with
  | cons d1 d2 =>
    cases d1
    cases d2 with
    | cons d2 d3 =>
      cases d3
      obtain ⟨us, e1, a1⟩ := r.cell a _ e
      obtain ⟨r3, s3⟩ := r.write (o := .lst (us.take i.toNat ++ [_] ++ us.drop i.toNat)) (c := .lst (xs.take i.toNat ++ [y] ++ xs.drop i.toNat)) e (fun _ q => nomatch q) (fun q => nomatch q) ⟨_, upd_same, ((a1.take _).app (.one d2)).app (a1.drop _)⟩ (fun _ q => nomatch q)
      exact ⟨a, us, i, _, rfl, rfl, e1, Nat.lt_of_le_of_lt (by rw [a1.len]; exact hl) (by decide), h0.1, h0.2, p _ _ _ _ q .non r3 s3⟩
theorem v_extend {a : Addr} (e : h a = some (.lst xs)) (hv : LsV h y ys) (hl : xs.length + ys.length ≤ 1000000) (q : Q .non (seth h a (.lst (xs ++ ys)))) : dRM rExtend (.ref a) [y] h Q := fun v vs H Q' r dx dxs p => by
  cases dx
  cases dxs with
  | cons d1 d2 =>
    cases d2
    obtain ⟨us, e1, a1⟩ := r.cell a _ e
    obtain ⟨b, ws, rfl, e2, a2⟩ := hv.at r d1
    obtain ⟨r3, s3⟩ := r.write (o := .lst (us ++ ws)) (c := .lst (xs ++ ys)) e (fun _ q => nomatch q) (fun q => nomatch q) ⟨_, upd_same, a1.app a2⟩ (fun _ q => nomatch q)
    exact ⟨a, b, us, ws, rfl, rfl, e1, e2, Nat.le_trans (by rw [a1.len, a2.len]; exact hl) (by decide), p _ _ _ _ q .non r3 s3⟩
theorem v_clear {a : Addr} (e : h a = some (.lst xs)) (q : Q .non (seth h a (.lst []))) : dRM rClear (.ref a) [] h Q := fun v vs H Q' r dx dxs p => by
  cases dx; cases dxs
  obtain ⟨us, e1, a1⟩ := r.cell a _ e
  obtain ⟨r3, s3⟩ := r.write (o := .lst []) (c := .lst []) e (fun _ q => nomatch q) (fun q => nomatch q) ⟨_, upd_same, .nil⟩ (fun _ q => nomatch q)
  exact ⟨a, us, rfl, rfl, e1, p _ _ _ _ q .non r3 s3⟩
theorem eqV_int (a b : Int) : eqV (.int a) (.int b) = decide (a = b) := by simp [eqV, Bool.beq_eq_decide_eq]
theorem eqV_str (a b : Str) : eqV (.str a) (.str b) = decide (a = b) := by simp [eqV, Bool.beq_eq_decide_eq]
theorem v_indexI {ns : List Int} {n : Nat} (hv : LsV h x (ns.map .int)) (e : ns[n]? = some i) (nd : ∀ m, m < n → ns[m]? ≠ some i) (q : Q (.int (n : Int)) h) : dRM (rIndex K) x [.int i] h Q := fun v vs H Q' r dx dxs p => by
  cases dxs with
  | cons d1 d2 =>
    cases d2; cases d1
    obtain ⟨b, ws, rfl, e2, a2⟩ := hv.at r dx
    have := a2.ints_inv
    subst this
    refine ⟨b, _, .int i, n, .int i, rfl, rfl, .of e2, rfl, flat_ints ns, by rw [List.getElem?_map, e]; rfl, by simp [eqV], fun m z' hm hz => ?_, post_id p r (.int _) q⟩
    obtain ⟨a, ea, rfl⟩ := get_map hz
    rw [eqV_int]
    exact decide_eq_false fun k => nd m hm (by rw [ea, k])
theorem v_indexS {ns : List Str} {n : Nat} {s : Str} (hv : LsV h x (ns.map .str)) (e : ns[n]? = some s) (nd : ∀ m, m < n → ns[m]? ≠ some s) (q : Q (.int (n : Int)) h) : dRM (rIndex K) x [.str s] h Q := fun v vs H Q' r dx dxs p => by
  cases dxs with
  | cons d1 d2 =>
    cases d2; cases d1
    obtain ⟨b, ws, rfl, e2, a2⟩ := hv.at r dx
    have := a2.strs_inv
    subst this
    refine ⟨b, _, .str s, n, .str s, rfl, rfl, .of e2, rfl, flat_strs ns, by rw [List.getElem?_map, e]; rfl, by simp [eqV], fun m z' hm hz => ?_, post_id p r (.int _) q⟩
    obtain ⟨a, ea, rfl⟩ := get_map hz
    rw [eqV_str]
    exact decide_eq_false fun k => nd m hm (by rw [ea, k])
/-! ### + and * of lists and tuples -/
theorem v_cat (hx : LsV h x xs) (hy : LsV h y ys) (hl : xs.length + ys.length ≤ 1000000) (q : Fresh (xs ++ ys) h Q) : dR2 rCat x y h Q := fun v w H Q' r dx dy p => by
  obtain ⟨a, us, rfl, e1, a1⟩ := hx.at r dx
  obtain ⟨b, ws, rfl, e2, a2⟩ := hy.at r dy
  exact ⟨a, b, us, ws, rfl, rfl, e1, e2, Nat.le_trans (by rw [a1.len, a2.len]; exact hl) (by decide), fun l nl => q.post p r nl (a1.app a2)⟩
theorem v_catA (hl : xs.length + ys.length ≤ 1000000) (q : Q (.tup (xs ++ ys)) h) : dR2 (rCatA K) (.tup xs) (.tup ys) h Q := fun v w H Q' r dx dy p => by
  obtain ⟨a, us, rfl, e1, a1⟩ := tup_at dx
  obtain ⟨b, ws, rfl, e2, a2⟩ := tup_at dy
  refine ⟨a, b, us, ws, rfl, rfl, .of e1, .of e2, Nat.le_trans (by rw [a1.len, a2.len]; exact hl) (by decide), fun e => ?_, fun _ e => ?_, fun _ _ l nl => post_newT p r nl (a1.app a2) q⟩
  · subst e; cases a1; exact post_id p r dy q
  · subst e; cases a2; rw [List.append_nil] at q; exact post_id p r dx q
theorem flat_rep {α : Type} (a : α) : ∀ n, (List.replicate n [a]).flatten = List.replicate n a
  | 0 => rfl
  | n + 1 => by rw [List.replicate_succ, List.flatten_cons, flat_rep a n]; rfl
/-- [a] * n -/
theorem v_rep1 (hx : LsV h x [d]) (hi : i ≤ 1000000) (h0 : 0 ≤ i) (q : Fresh (List.replicate i.toNat d) h Q) : dR2 rRep x (.int i) h Q := fun v w H Q' r dx dy p => by
  cases dy
  obtain ⟨a, us, rfl, e1, a1⟩ := hx.at r dx
  cases a1 with
  | cons b1 b2 =>
    cases b2
    have big : (1000000 : Nat) < sizeLine := by decide
    refine ⟨a, i, _, rfl, rfl, e1, by omega, by omega, ?_, fun l nl => ?_⟩
    · rw [List.length_cons, List.length_nil]; omega
    · rw [flat_rep]
      exact q.post p r nl (DxA.rep b1 _)
end
end GX

set_option Elab.async false
set_option linter.all false
set_option maxRecDepth 100000
set_option maxHeartbeats 4000000
namespace GX
open PySem L2 PySem.Spec PyProof.Rows
/-! ### plain data: repr, == -/
mutual
def toP : D → PyData
  | .non => .none
  | .bl b => .bool b
  | .int i => .int i
  | .str z => .str z
  | .lst xs => .list (toPs xs)
  | .tup xs => .tuple (toPs xs)
  | .ty _ => .none
  | .dK _ => .none
  | .dT _ => .none
  | .ins _ _ => .none
  | .ref _ => .none
  | .xc _ _ _ _ => .none
  | .fact _ => .none
def toPs : List D → List PyData
  | [] => []
  | x :: xs => toP x :: toPs xs
end
mutual
def okP : D → Bool
  | .non => true
  | .bl _ => true
  | .int _ => true
  | .str _ => true
  | .lst xs => okPs xs
  | .tup xs => okPs xs
  | .ty _ => false
  | .dK _ => false
  | .dT _ => false
  | .ins _ _ => false
  | .ref _ => false
  | .xc _ _ _ _ => false
  | .fact _ => false
def okPs : List D → Bool
  | [] => true
  | x :: xs => okP x && okPs xs
end
theorem toPs_map (xs : List D) : toPs xs = xs.map toP := by
  induction xs with
  | nil => rfl
  | cons x xs ih => rw [toPs, ih]; rfl
theorem okPs_all (xs : List D) : okPs xs = xs.all okP := by
  induction xs with
  | nil => rfl
  | cons x xs ih => rw [okPs, ih]; rfl
section
variable {K : PySem.W.Frag} {h : Hs} {H : Hp}
mutual
theorem dp_of : ∀ {x : D} {v : V}, okP x = true → Dx (Fz h H) v x → Dp K H v (toP x)
  | _, _, _, .non => .non
  | _, _, _, .bl b => .bl b
  | _, _, _, .int i => .int i
  | _, _, _, .str z => .str z
  | .lst xs, _, o, .lst e a => .lst (.of (fz_some e).2) (dps_of (by simpa [okP] using o) a)
  | .tup xs, _, o, .tup e a => .tup (.of (fz_some e).2) (dps_of (by simpa [okP] using o) a)
  | _, _, o, .ty _ => by simp [okP] at o
  | _, _, o, .ref _ => by simp [okP] at o
  | _, _, o, .dK _ _ _ _ => by simp [okP] at o
  | _, _, o, .dT _ _ _ _ => by simp [okP] at o
  | _, _, o, .ins _ _ _ => by simp [okP] at o
  | _, _, o, .xc _ _ _ => by simp [okP] at o
  | _, _, o, .fact _ _ => by simp [okP] at o
theorem dps_of : ∀ {xs : List D} {vs : List V}, okPs xs = true → DxA (Fz h H) vs xs → DpAll K H vs (toPs xs)
  | [], _, _, .nil => .nil
  | x :: xs, _, o, .cons a b => by
    rw [okPs, Bool.and_eq_true] at o
    exact .cons (dp_of o.1 a) (dps_of o.2 b)
end
end
section
variable {ρ : Rho} {h : Hs} {Q : QD} {K : PySem.W.Frag} {x y : D} {xs ys ds : List D}
/-- what can be shown -/
def shOk (x : D) : Prop := okP x = true ∧ (toP x).showable = true ∧ (toP x).hasDict = false ∧ (toP x).depth ≤ 150 ∧ (toP x).shown.length + 64 ≤ 16777216
theorem v_repr (o : shOk x) (q : Q (.str (toP x).shown) h) : dRA (rRepr K) [x] h Q := fun vs H Q' r dx p => by
  cases dx with
  | cons dx dn =>
    cases dn
    exact ⟨_, toP x, rfl, dp_of o.1 dx, o.2.1, o.2.2.1, o.2.2.2.1, o.2.2.2.2, post_id p r (.str _) q⟩
theorem v_eqD (o1 : okP x = true) (o2 : okP y = true) (s1 : SeqAt.shaped (toP x) = true) (s2 : SeqAt.shaped (toP y) = true) (q : Q (.bl (PyData.eqv (toP x) (toP y))) h) : dR2 (rEqD K) x y h Q := fun v w H Q' r dx dy p =>
  ⟨_, _, dp_of o1 dx, dp_of o2 dy, s1, s2, post_id p r (.bl _) q⟩
theorem v_neD (o1 : okP x = true) (o2 : okP y = true) (s1 : SeqAt.shaped (toP x) = true) (s2 : SeqAt.shaped (toP y) = true) (q : Q (.bl (!PyData.eqv (toP x) (toP y))) h) : dR2 (rNeD K) x y h Q := fun v w H Q' r dx dy p =>
  ⟨_, _, dp_of o1 dx, dp_of o2 dy, s1, s2, post_id p r (.bl _) q⟩
end
/-! ### what is walked -/
/-- a list or a tuple -/
def iSeq (K : PySem.W.Frag) (tl : TE) : TI := fun σ H R => tl σ H fun x H1 => ∃ a, x = .ref a ∧ (((∃ xs, SqL K H1 a xs) ∧ R (Itl K a) H1) ∨ ((∃ xs, SqT K H1 a xs) ∧ R (Itt K a) H1))
section
variable {X : Cx} {tg : Expr}
theorem fresh_it {pins : List (Addr × Obj)} {σ : L2.St} {G : Hp} {z : Shared} (J : Inv X pins σ G z) : ∀ c ∈ [z.heap.objs.size], FpOk X pins G c := fun c hc => by
  rw [List.mem_singleton.mp hc]
  exact J.fpOk (Nat.le_refl _) (J.hok.fresh (Nat.le_refl _))
theorem pi_seq {l : Expr} {tl : TE} (hl : PE X l tl) : PI X tg l (iSeq X.K tl) where
  run := fun pins z σ G R I0 q0 => by
    refine thn (hl.run pins z σ G _ I0 q0) ?_
    rintro u z1 ⟨x, G1, J, rx, a, rfl, ⟨⟨xs, sq⟩, q⟩ | ⟨⟨xs, sq⟩, q⟩⟩
    · cases rx
      obtain ⟨its, _, pl, _⟩ := J.list sq
      refine wpAny_pyIter_list pl.isList ⟨_, _, _, _, G1, rfl, ?_, turn_list a _, ?_, fresh_it J, q⟩
      · exact J.kept (t' := z1.toks) fun _ _ m => Heap.get?_push_of_some _ m
      · exact ⟨_, Heap.get?_push_size _ rfl, rfl, rfl⟩
    · cases rx
      obtain ⟨its, _, pl, _⟩ := J.tuple sq
      refine wpAny_pyIter_tuple (show z1.heap.IsTuple a its.toArray from pl) ⟨_, _, _, _, G1, rfl, ?_, turn_tuple a _, ?_, fresh_it J, q⟩
      · exact J.kept (t' := z1.toks) fun _ _ m => Heap.get?_push_of_some _ m
      · exact ⟨_, Heap.get?_push_size _ rfl, rfl, rfl⟩
theorem pi_seqK {K : PySem.W.Frag} {l : Expr} {tl : TE} (hK : X.K = K) (hl : PE X l tl) : PI X tg l (iSeq K tl) := hK ▸ pi_seq hl
end
/-- what stands so that a list is walked -/
inductive LsI (h : Hs) : D → List D → (Hs → Prop) → Prop
  | f {ds : List D} : LsI h (.lst ds) ds (fun _ => True)
  | c {p : Addr} {ds : List D} : h p = some (.lst ds) → LsI h (.ref p) ds (fun h => h p = some (.lst ds))
section
variable {ρ : Rho} {h : Hs} {K : PySem.W.Frag} {R : List D → (Hs → Prop) → Hs → Prop} {x : D} {ds : List D} {Sd : Hs → Prop}
abbrev StI (Sd : Hs → Prop) (h1 : Hs) (H1 : Hp) : Hs → Hp → Prop := fun h' H' => Sd h' ∧ Same (Fz h1 H1) (Fz h' H')
/-- the list at p, wherever the walk stands -/
theorem LsI.at {H : Hp} {v : V} (i : LsI h x ds Sd) (r : RelH h H) (d : Dx (Fz h H) v x) : ∃ p, v = .ref p ∧ ∀ h' H', RelH h' H' → StI Sd h H h' H' → ∃ vs, H' p = some (.lst vs) ∧ DxA (Fz h' H') vs ds := by
  cases i with
  | f =>
    cases d with
    | @lst p vs _ e a => exact ⟨p, rfl, fun h' H' r' s' => ⟨vs, (fz_some (s'.2 _ _ e)).2, a.mono s'.2⟩⟩
  | c e =>
    cases d
    exact ⟨_, rfl, fun h' H' r' s' => r'.cell _ _ s'.1⟩
theorem LsI.now (i : LsI h x ds Sd) : Sd h := by
  cases i with
  | f => trivial
  | c e => exact e
theorem it_list {H : Hp} {p : Addr} (w : ∀ h' H', RelH h' H' → StI Sd h H h' H' → ∃ vs, H' p = some (.lst vs) ∧ DxA (Fz h' H') vs ds) : ItOk (Itl K p) ds (StI Sd h H) := by
  refine ⟨fun H' => ∃ vs, H' p = some (.lst vs) ∧ vs.length = ds.length, fun i H1 x H2 => H2 = H1 ∧ ∃ vs, H1 p = some (.lst vs) ∧ vs[i]? = some x, ⟨?_, ?_, ?_⟩, ?_, ?_⟩
  · rintro i H1 hi ⟨vs, e, l⟩
    exact ⟨vs, vs[i]'(by omega), .of e, List.getElem?_eq_getElem _⟩
  · rintro H1 ⟨vs, e, l⟩
    exact ⟨vs, .of e, by omega⟩
  · rintro i H1 x H2 hi ⟨vs, e, l⟩ y
    exact ⟨y.1, vs, e, y.2 vs (.of e)⟩
  · intro h' H' r s
    obtain ⟨vs, e, a⟩ := w h' H' r s
    exact ⟨vs, e, a.len⟩
  · rintro i h' H1 x H2 r s ⟨rfl, vs, e, hi⟩
    obtain ⟨vs', e', a⟩ := w h' _ r s
    rw [e] at e'
    cases e'
    obtain ⟨d, ed, dx⟩ := a.getV hi
    exact ⟨d, ed, dx, r, Same.refl _⟩
theorem it_tup {H : Hp} {p : Addr} (w : ∀ h' H', RelH h' H' → StI Sd h H h' H' → ∃ vs, H' p = some (.tup vs) ∧ DxA (Fz h' H') vs ds) : ItOk (Itt K p) ds (StI Sd h H) := by
  refine ⟨fun H' => ∃ vs, H' p = some (.tup vs) ∧ vs.length = ds.length, fun i H1 x H2 => H2 = H1 ∧ ∃ vs, H1 p = some (.tup vs) ∧ vs[i]? = some x, ⟨?_, ?_, ?_⟩, ?_, ?_⟩
  · rintro i H1 hi ⟨vs, e, l⟩
    exact ⟨vs, vs[i]'(by omega), .of e, List.getElem?_eq_getElem _⟩
  · rintro H1 ⟨vs, e, l⟩
    exact ⟨vs, .of e, by omega⟩
  · rintro i H1 x H2 hi ⟨vs, e, l⟩ y
    exact ⟨y.1, vs, e, y.2 vs (.of e)⟩
  · intro h' H' r s
    obtain ⟨vs, e, a⟩ := w h' H' r s
    exact ⟨vs, e, a.len⟩
  · rintro i h' H1 x H2 r s ⟨rfl, vs, e, hi⟩
    obtain ⟨vs', e', a⟩ := w h' _ r s
    rw [e] at e'
    cases e'
    obtain ⟨d, ed, dx⟩ := a.getV hi
    exact ⟨d, ed, dx, r, Same.refl _⟩
theorem i_list {tl : TE} (z : dE tl ρ h fun x h1 => ∃ ds Sd, LsI h1 x ds Sd ∧ R ds Sd h1) : dI (iList K tl) ρ h R := fun σ H R' rl p =>
  z σ H _ rl fun x h1 v H1 ⟨ds, Sd, i, q⟩ dx rh s => by
    obtain ⟨a, rfl, w⟩ := i.at rh dx
    obtain ⟨vs, e, _⟩ := w h1 H1 rh ⟨i.now, Same.refl _⟩
    exact ⟨a, rfl, ⟨vs, .of e⟩, p ds Sd _ h1 H1 q rh s (it_list w)⟩
theorem i_tup {tl : TE} (z : dE tl ρ h fun x h1 => ∃ ds, x = .tup ds ∧ R ds (fun _ => True) h1) : dI (iTup K tl) ρ h R := fun σ H R' rl p =>
  z σ H _ rl fun x h1 v H1 ⟨ds, ex, q⟩ dx rh s => by
    subst ex
    cases dx with
    | @tup a vs _ e dv =>
      exact ⟨a, rfl, ⟨vs, .of (fz_some e).2⟩, p ds _ _ h1 H1 q rh s (it_tup fun h' H' r' s' => ⟨vs, (fz_some (s'.2 _ _ e)).2, dv.mono s'.2⟩)⟩
inductive SqI (h : Hs) : D → List D → (Hs → Prop) → Prop
  | l {x : D} {ds : List D} {Sd : Hs → Prop} : LsI h x ds Sd → SqI h x ds Sd
  | t {ds : List D} : SqI h (.tup ds) ds (fun _ => True)
theorem SqI.f {ds : List D} : SqI h (.lst ds) ds (fun _ => True) := .l .f
theorem SqI.c {p : Addr} {ds : List D} (e : h p = some (.lst ds)) : SqI h (.ref p) ds (fun h => h p = some (.lst ds)) := .l (.c e)
theorem i_seq {tl : TE} (z : dE tl ρ h fun x h1 => ∃ ds Sd, SqI h1 x ds Sd ∧ R ds Sd h1) : dI (iSeq K tl) ρ h R := fun σ H R' rl p =>
  z σ H _ rl fun x h1 v H1 ⟨ds, Sd, i, q⟩ dx rh s => by
    cases i with
    | l i =>
      obtain ⟨a, rfl, w⟩ := i.at rh dx
      obtain ⟨vs, e, _⟩ := w h1 H1 rh ⟨i.now, Same.refl _⟩
      exact ⟨a, rfl, .inl ⟨⟨vs, .of e⟩, p ds Sd _ h1 H1 q rh s (it_list w)⟩⟩
    | t =>
      cases dx with
      | @tup a vs _ e dv =>
        exact ⟨a, rfl, .inr ⟨⟨vs, .of (fz_some e).2⟩, p ds _ _ h1 H1 q rh s (it_tup fun h' H' r' s' => ⟨vs, (fz_some (s'.2 _ _ e)).2, dv.mono s'.2⟩)⟩⟩
/-- ints one after another -/
def rngD (lo c : Int) (n : Nat) : List D := (List.range n).map fun i : Nat => .int (lo + (i : Int) * c)
theorem rngD_len (lo c : Int) (n : Nat) : (rngD lo c n).length = n := by unfold rngD; rw [List.length_map, List.length_range]
theorem rngD_get {lo c : Int} {n i : Nat} (hi : i < n) : (rngD lo c n)[i]? = some (.int (lo + (i : Int) * c)) := by
  unfold rngD
  rw [List.getElem?_map, List.getElem?_range hi]
  rfl
theorem rngD_inv {lo c : Int} {n i : Nat} {x : D} (e : (rngD lo c n)[i]? = some x) : i < n ∧ x = .int (lo + (i : Int) * c) := by
  have hi : i < n := by
    have := (List.getElem?_eq_some_iff.mp e).1
    rwa [rngD_len] at this
  rw [rngD_get hi] at e
  exact ⟨hi, (Option.some.inj e).symm⟩
theorem it_rng {lo : Int} {n : Nat} {St : Hs → Hp → Prop} : ItOk (Itr lo n) (rngD lo 1 n) St := by
  refine ⟨fun _ => True, fun i H x H' => i < n ∧ H' = H ∧ x = .int (lo + (i : Nat)), ⟨?_, ?_, ?_⟩, fun _ _ _ _ => trivial, ?_⟩
  · intro i H hi _
    rw [rngD_len] at hi
    exact hi
  · intro H _
    show n ≤ (rngD lo 1 n).length
    rw [rngD_len]
    exact Nat.le_refl _
  · intro i H x H' hi _ y
    rw [rngD_len] at hi
    exact ⟨hi, y⟩
  · rintro i h' H1 x H2 r s ⟨hi, rfl, rfl⟩
    refine ⟨_, rngD_get hi, ?_, r, Same.refl _⟩
    rw [Int.mul_one]
    exact .int _
theorem it_rngC {lo c : Int} {n : Nat} {St : Hs → Hp → Prop} : ItOk (Itc lo c n) (rngD lo c n) St := by
  refine ⟨fun _ => True, fun i H x H' => i < n ∧ H' = H ∧ x = .int (lo + (i : Nat) * c), ⟨?_, ?_, ?_⟩, fun _ _ _ _ => trivial, ?_⟩
  · intro i H hi _
    rw [rngD_len] at hi
    exact hi
  · intro H _
    show n ≤ (rngD lo c n).length
    rw [rngD_len]
    exact Nat.le_refl _
  · intro i H x H' hi _ y
    rw [rngD_len] at hi
    exact ⟨hi, y⟩
  · rintro i h' H1 x H2 r s ⟨hi, rfl, rfl⟩
    exact ⟨_, rngD_get hi, .int _, r, Same.refl _⟩
theorem i_rng1 {a : TA} (z : dA a ρ h fun xs h1 => ∃ j : Int, xs = [.int j] ∧ (-(2 ^ 62) ≤ j ∧ j < 2 ^ 62) ∧ R (rngD 0 1 j.toNat) (fun _ => True) h1) : dI (iRng1 a) ρ h R := fun σ H R' rl p =>
  z σ H _ rl fun xs h1 vs H1 ⟨j, ex, b, q⟩ dx rh s => by
    subst ex
    cases dx with
    | cons d1 d2 => cases d2; cases d1; exact ⟨j, rfl, b.1, b.2, p _ _ _ h1 H1 q rh s it_rng⟩
theorem i_rng2 {a : TA} (z : dA a ρ h fun xs h1 => ∃ i j : Int, xs = [.int i, .int j] ∧ (-(2 ^ 62) ≤ i ∧ i < 2 ^ 62 ∧ -(2 ^ 62) ≤ j ∧ j < 2 ^ 62) ∧ R (rngD i 1 (j - i).toNat) (fun _ => True) h1) : dI (iRng2 a) ρ h R := fun σ H R' rl p =>
  z σ H _ rl fun xs h1 vs H1 ⟨i, j, ex, b, q⟩ dx rh s => by
    subst ex
    cases dx with
    | cons d1 d2 =>
      cases d2 with
      | cons d2 d3 => cases d3; cases d1; cases d2; exact ⟨i, j, rfl, b, p _ _ _ h1 H1 q rh s it_rng⟩
theorem i_rng3 {a : TA} (z : dA a ρ h fun xs h1 => ∃ (i j c : Int) (n : Nat), xs = [.int i, .int j, .int c] ∧ RgC i j c n ∧ R (rngD i c n) (fun _ => True) h1) : dI (iRng3 a) ρ h R := fun σ H R' rl p =>
  z σ H _ rl fun xs h1 vs H1 ⟨i, j, c, n, ex, b, q⟩ dx rh s => by
    subst ex
    cases dx with
    | cons d1 d2 =>
      cases d2 with
      | cons d2 d3 =>
        cases d3 with
        | cons d3 d4 => cases d4; cases d1; cases d2; cases d3; exact ⟨i, j, c, n, rfl, b, p _ _ _ h1 H1 q rh s it_rngC⟩
/-- a text's signs -/
def signsD (z : Str) : List D := z.cps.toList.map fun c => .str ⟨#[c]⟩
theorem signsD_len (z : Str) : (signsD z).length = z.length := by unfold signsD; rw [List.length_map, Array.length_toList]; rfl
theorem it_str {z : Str} {St : Hs → Hp → Prop} : ItOk (Its z) (signsD z) St := by
  have hl : (signsD z).length = z.cps.size := signsD_len z
  refine ⟨fun _ => True, fun i H v H' => H' = H ∧ ∃ c, z.cps[i]? = some c ∧ v = .str ⟨#[c]⟩, by rw [hl]; exact walk_str, fun _ _ _ _ => trivial, ?_⟩
  rintro i h' H1 x H2 r s ⟨rfl, c, e, rfl⟩
  refine ⟨.str ⟨#[c]⟩, ?_, .str _, r, Same.refl _⟩
  unfold signsD
  rw [List.getElem?_map, Array.getElem?_toList, e]
  rfl
theorem i_str {te : TE} (z : dE te ρ h fun x h1 => ∃ s, x = .str s ∧ R (signsD s) (fun _ => True) h1) : dI (iStr te) ρ h R := fun σ H R' rl p =>
  z σ H _ rl fun x h1 v H1 ⟨s, ex, q⟩ dx rh s' => by
    subst ex
    cases dx
    exact ⟨s, rfl, p _ _ _ h1 H1 q rh s' it_str⟩
/-- pairs -/
def prsD (xs ys : List D) : List D := (List.zip xs ys).map fun p => .tup [p.1, p.2]
theorem prsD_len (xs ys : List D) : (prsD xs ys).length = min xs.length ys.length := by unfold prsD; rw [List.length_map, List.length_zip]
theorem prsD_get {xs ys : List D} {i : Nat} {x y : D} (e : xs[i]? = some x) (f : ys[i]? = some y) : (prsD xs ys)[i]? = some (.tup [x, y]) := by
  unfold prsD
  rw [List.getElem?_map, List.getElem?_zip_eq_some (z := (x, y)) |>.mpr ⟨e, f⟩]
  rfl
theorem prsD_inv {xs ys : List D} {i : Nat} {z : D} (e : (prsD xs ys)[i]? = some z) : ∃ x y, xs[i]? = some x ∧ ys[i]? = some y ∧ z = .tup [x, y] := by
  unfold prsD at e
  obtain ⟨p, e1, e2⟩ := get_map e
  obtain ⟨f, g⟩ := List.getElem?_zip_eq_some.mp e1
  exact ⟨p.1, p.2, f, g, e2.symm⟩
theorem pair_new {H1 : Hp} {h' : Hs} {T : Addr} {v w : V} {x y : D} (r : RelH h' H1) (n : H1 T = none) (dx : Dx (Fz h' H1) v x) (dy : Dx (Fz h' H1) w y) :
    Dx (Fz h' (upd H1 T (.tup [v, w]))) (.ref T) (.tup [x, y]) ∧ RelH h' (upd H1 T (.tup [v, w])) ∧ Sm h' H1 h' (upd H1 T (.tup [v, w])) := by
  obtain ⟨r1, s1⟩ := r.newF (o := .tup [v, w]) n
  exact ⟨.tup (by rw [fz_new r n, upd_same]) (.cons (dx.mono s1) (.cons (dy.mono s1) .nil)), r1, s1⟩
theorem it_zip {H : Hp} {p q : Addr} {xs ys : List D} (w1 : ∀ h' H', RelH h' H' → StI Sd h H h' H' → ∃ vs, H' p = some (.lst vs) ∧ DxA (Fz h' H') vs xs)
    (w2 : ∀ h' H', RelH h' H' → StI Sd h H h' H' → ∃ vs, H' q = some (.lst vs) ∧ DxA (Fz h' H') vs ys) : ItOk (Itz K p q) (prsD xs ys) (StI Sd h H) := by
  refine ⟨fun H' => ∃ vs us, H' p = some (.lst vs) ∧ H' q = some (.lst us) ∧ vs.length = xs.length ∧ us.length = ys.length, fun i H1 x H2 => ∃ T v u vs us, x = .ref T ∧ H1 T = none ∧ H2 = upd H1 T (.tup [v, u]) ∧ H1 p = some (.lst vs) ∧ H1 q = some (.lst us) ∧ vs[i]? = some v ∧ us[i]? = some u, ⟨?_, ?_, ?_⟩, ?_, ?_⟩
  · rintro i H1 hi ⟨vs, us, e1, e2, l1, l2⟩
    rw [prsD_len] at hi
    exact ⟨vs, us, vs[i]'(by omega), us[i]'(by omega), .of e1, .of e2, List.getElem?_eq_getElem _, List.getElem?_eq_getElem _⟩
  · rintro H1 ⟨vs, us, e1, e2, l1, l2⟩
    refine ⟨vs, us, .of e1, .of e2, ?_⟩
    rw [prsD_len]
    omega
  · rintro i H1 x H2 hi ⟨vs, us, e1, e2, l1, l2⟩ y
    obtain ⟨T, v, u, h1, h2, h3, h4, h5⟩ := y
    exact ⟨T, v, u, vs, us, h1, h2, h3, e1, e2, h4 vs (.of e1), h5 us (.of e2)⟩
  · intro h' H' r s
    obtain ⟨vs, e, a⟩ := w1 h' H' r s
    obtain ⟨us, e2, a2⟩ := w2 h' H' r s
    exact ⟨vs, us, e, e2, a.len, a2.len⟩
  · rintro i h' H1 x H2 r s ⟨T, v, u, vs, us, rfl, nT, rfl, e1, e2, hv, hu⟩
    obtain ⟨vs', e1', a1⟩ := w1 h' _ r s
    obtain ⟨us', e2', a2⟩ := w2 h' _ r s
    rw [e1] at e1'
    rw [e2] at e2'
    cases e1'
    cases e2'
    obtain ⟨d1, ed1, dx1⟩ := a1.getV hv
    obtain ⟨d2, ed2, dx2⟩ := a2.getV hu
    obtain ⟨dp, rp, sp⟩ := pair_new r nT dx1 dx2
    exact ⟨_, prsD_get ed1 ed2, dp, rp, sp⟩
theorem LsI.and {h' : Hs} {H H' : Hp} {y : D} {es : List D} {Se : Hs → Prop} (k : StI (fun h => Sd h ∧ Se h) h H h' H') : StI Sd h H h' H' ∧ StI Se h H h' H' := ⟨⟨k.1.1, k.2⟩, ⟨k.1.2, k.2⟩⟩
theorem i_zip {a : TA} (z : dA a ρ h fun xs h1 => ∃ x y ds es Sd Se, xs = [x, y] ∧ LsI h1 x ds Sd ∧ LsI h1 y es Se ∧ R (prsD ds es) (fun h => Sd h ∧ Se h) h1) : dI (iZip K a) ρ h R := fun σ H R' rl p =>
  z σ H _ rl fun xs h1 vs H1 ⟨x, y, ds, es, Sd, Se, ex, i1, i2, q⟩ dx rh s => by
    subst ex
    cases dx with
    | cons d1 d2 =>
      cases d2 with
      | cons d2 d3 =>
        cases d3
        obtain ⟨b, rfl, w1⟩ := i1.at rh d1
        obtain ⟨c, rfl, w2⟩ := i2.at rh d2
        obtain ⟨vs1, e1, _⟩ := w1 h1 H1 rh ⟨i1.now, Same.refl _⟩
        obtain ⟨vs2, e2, _⟩ := w2 h1 H1 rh ⟨i2.now, Same.refl _⟩
        exact ⟨b, c, vs1, vs2, rfl, .of e1, .of e2, p _ _ _ h1 H1 q rh s (it_zip (fun h' H' r' k => w1 h' H' r' ⟨k.1.1, k.2⟩) (fun h' H' r' k => w2 h' H' r' ⟨k.1.2, k.2⟩))⟩
/-- numbered -/
def numD (xs : List D) : List D := prsD ((List.range xs.length).map fun i : Nat => .int i) xs
theorem numD_len (xs : List D) : (numD xs).length = xs.length := by unfold numD; rw [prsD_len, List.length_map, List.length_range, Nat.min_self]
theorem numD_get {xs : List D} {i : Nat} {x : D} (e : xs[i]? = some x) : (numD xs)[i]? = some (.tup [.int (i : Nat), x]) := by
  refine prsD_get ?_ e
  have hi := (List.getElem?_eq_some_iff.mp e).1
  rw [List.getElem?_map, List.getElem?_range hi]
  rfl
theorem numD_inv {xs : List D} {i : Nat} {z : D} (e : (numD xs)[i]? = some z) : ∃ x, xs[i]? = some x ∧ z = .tup [.int (i : Nat), x] := by
  obtain ⟨x, y, e1, e2, rfl⟩ := prsD_inv e
  have := numD_get e2
  have e' : (numD xs)[i]? = some (.tup [x, y]) := e
  rw [this] at e'
  exact ⟨y, e2, (Option.some.inj e').symm⟩
theorem it_enum {H : Hp} {p : Addr} (w : ∀ h' H', RelH h' H' → StI Sd h H h' H' → ∃ vs, H' p = some (.lst vs) ∧ DxA (Fz h' H') vs ds) : ItOk (Ite K p) (numD ds) (StI Sd h H) := by
  refine ⟨fun H' => ∃ vs, H' p = some (.lst vs) ∧ vs.length = ds.length, fun i H1 x H2 => ∃ T v vs, x = .ref T ∧ H1 T = none ∧ H2 = upd H1 T (.tup [.int (i : Nat), v]) ∧ H1 p = some (.lst vs) ∧ vs[i]? = some v, ⟨?_, ?_, ?_⟩, ?_, ?_⟩
  · rintro i H1 hi ⟨vs, e, l⟩
    rw [numD_len] at hi
    exact ⟨vs, vs[i]'(by omega), .of e, List.getElem?_eq_getElem _⟩
  · rintro H1 ⟨vs, e, l⟩
    exact ⟨vs, .of e, by rw [numD_len]; omega⟩
  · rintro i H1 x H2 hi ⟨vs, e, l⟩ ⟨T, v, h1, h2, h3, h4⟩
    exact ⟨T, v, vs, h1, h2, h3, e, h4 vs (.of e)⟩
  · intro h' H' r s
    obtain ⟨vs, e, a⟩ := w h' H' r s
    exact ⟨vs, e, a.len⟩
  · rintro i h' H1 x H2 r s ⟨T, v, vs, rfl, nT, rfl, e, hi⟩
    obtain ⟨vs', e', a⟩ := w h' _ r s
    rw [e] at e'
    cases e'
    obtain ⟨d, ed, dx⟩ := a.getV hi
    obtain ⟨dp, rp, sp⟩ := pair_new r nT (.int (i : Nat)) dx
    exact ⟨_, numD_get ed, dp, rp, sp⟩
theorem i_enum {a : TA} (z : dA a ρ h fun xs h1 => ∃ x ds Sd, xs = [x] ∧ LsI h1 x ds Sd ∧ R (numD ds) Sd h1) : dI (iEnum K a) ρ h R := fun σ H R' rl p =>
  z σ H _ rl fun xs h1 vs H1 ⟨x, ds, Sd, ex, i, q⟩ dx rh s => by
    subst ex
    cases dx with
    | cons d1 d2 =>
      cases d2
      obtain ⟨b, rfl, w⟩ := i.at rh d1
      obtain ⟨vs1, e1, _⟩ := w h1 H1 rh ⟨i.now, Same.refl _⟩
      exact ⟨b, vs1, rfl, .of e1, p _ _ _ h1 H1 q rh s (it_enum w)⟩
/-! ### dicts walked, under a lock -/
/-- newly locked, or locked already -/
def tLockU (t : TS) : TS := fun E σ H => tLock t E σ H ∨ t E σ H
def tLockEU (t : TE) : TE := fun σ H Q => tLockE t σ H Q ∨ t σ H Q
theorem ps_lockU {X : Cx} {st : Stmt} {t : TS} (k : PS X st t) : PS X st (tLockU t) := by
  refine ⟨fun pins s σ H D I hw => ?_⟩
  rcases hw with hw | hw
  · exact (ps_lock k).run pins s σ H D I hw
  · exact k.run pins s σ H D I hw
theorem pe_lockU {X : Cx} {e : Expr} {t : TE} (k : PE X e t) : PE X e (tLockEU t) := by
  refine ⟨fun pins s σ H D I hw => ?_⟩
  rcases hw with hw | hw
  · exact (pe_lock k).run pins s σ H D I hw
  · exact k.run pins s σ H D I hw
theorem uHH {H : Hp} {d : Addr} {o : Obj} {kvs : List (Key × V)} (e : H d = some (.dK kvs)) : SameU H (upd H d (.frz o (.dK kvs))) := fun b u q => by
  by_cases hb : b = d
  · subst hb
    rw [e] at q
    cases q
    exact ⟨_, upd_same, rfl, fun k _ => absurd rfl (k kvs)⟩
  · exact ⟨u, by rw [upd_ne hb]; exact q, rfl, fun _ _ => rfl⟩
theorem uHH2 {H : Hp} {d : Addr} {o : Obj} {kvs : List (Key × V)} (e : H d = some (.frz o (.dK kvs))) : SameU H (upd H d (.dK kvs)) := fun b u q => by
  by_cases hb : b = d
  · subst hb
    rw [e] at q
    cases q
    exact ⟨_, upd_same, rfl, fun k _ => absurd rfl (k kvs)⟩
  · exact ⟨u, by rw [upd_ne hb]; exact q, rfl, fun _ _ => rfl⟩
theorem fz_u {h : Hs} {H H' : Hp} (s : SameU H H') : SameU (Fz h H) (Fz h H') := fun b u q => by
  obtain ⟨n, e⟩ := fz_some q
  rw [fz_out n]
  exact s b u e
theorem relH_u {h : Hs} {H : Hp} {d : Addr} {o : HO} (r : RelH h H) (n : h d = none) (s : SameU H (upd H d o)) : RelH h (upd H d o) := by
  refine ⟨fun a u e => ?_, r.src⟩
  have ne : a ≠ d := h_ne e n
  refine (r.cell a u e).mono (fz_u s) (upd_ne ne) fun la q => ?_
  subst q
  exact upd_ne (h_ne (r.src a la e) n)
theorem rel_u {ρ : Rho} {h : Hs} {σ : L2.St} {H : Hp} {d : Addr} {o : HO} (r : Rel ρ h σ H) (n : h d = none) (s : SameU H (upd H d o)) : Rel ρ h σ (upd H d o) :=
  ⟨relH_u r.rh n s, r.len, fun i x e => let ⟨v, e1, dx⟩ := r.sl i x e; ⟨v, e1, dx.monoU (fz_u s)⟩⟩
/-- behind a lock: the dict at d stands as it stood -/
theorem unlock {h h' : Hs} {H H' : Hp} {d : Addr} {o : Obj} {kvs : List (Key × V)} (e : H d = some (.dK kvs)) (n : h d = none) (s : Same (Fz h (upd H d (.frz o (.dK kvs)))) (Fz h' H')) :
    H' d = some (.frz o (.dK kvs)) ∧ h' d = none ∧ SameU H' (upd H' d (.dK kvs)) ∧ Same (Fz h H) (Fz h' (upd H' d (.dK kvs))) := by
  have e1 : Fz h (upd H d (.frz o (.dK kvs))) d = some (.frz o (.dK kvs)) := by rw [fz_out n, upd_same]
  obtain ⟨n2, e2⟩ := fz_some (s d _ e1)
  refine ⟨e2, n2, uHH2 e2, fun b u q => ?_⟩
  obtain ⟨nb, eb⟩ := fz_some q
  by_cases hb : b = d
  · subst hb
    rw [e] at eb
    cases eb
    rw [fz_out n2, upd_same]
  · have := s b u (by rw [fz_out nb, upd_ne hb]; exact eb)
    obtain ⟨n3, e3⟩ := fz_some this
    rw [fz_out n3, upd_ne hb]
    exact e3
def Det (t : TE) (ρ : Rho) (h : Hs) (x : D) : Prop := ∀ σ H, Rel ρ h σ H → ∃ v, Dx (Fz h H) v x ∧ ∀ H', SameU H H' → ∀ Q : VK, Q v H' → t σ H' Q
theorem det_var {n : Nat} (e : ρ[n]? = some (some x)) : Det (tVar n) ρ h x := fun σ H r =>
  let ⟨v, e1, d⟩ := r.sl n x e; ⟨v, d, fun H' _ Q q => ⟨v, e1, q⟩⟩
theorem det_fld {ta : TE} {f : Str} {y : D} {C : Addr} {fs : List (Str × D)} (hd : Det ta ρ h y) (i : InsV h y C fs) (c : Cls K C) (n : NoAttr K C f) (l : fs.lookup f = some x) : Det (tFld K ta f) ρ h x := fun σ H r => by
  obtain ⟨v, dv, k⟩ := hd σ H r
  obtain ⟨p, dx, ws, rfl, e, a1, a2⟩ := i.at r.rh dv
  obtain ⟨w, l2, dw⟩ := lookup_dx a1 a2 l
  refine ⟨w, dw, fun H' s Q q => k H' s _ ?_⟩
  exact ⟨p, C, dx, ws, w, rfl, s.keep e (fun _ q => nomatch q) (fun _ q => nomatch q), c, n, l2, q⟩
/-- a dict's iterator, under the lock -/
def WalksD (w : TI) (td : TE) (sel : List (Key × D) → List D) : Prop := ∀ σ H1 d od kvs kds h1 (Sd : Hs → Prop) (R' : It → Hp → Prop), (∀ Q : VK, Q (.ref d) H1 → td σ H1 Q) → H1 d = some (.frz od (.dK kvs)) →
  (∀ h' H', RelH h' H' → StI Sd h1 H1 h' H' → H' d = some (.frz od (.dK kvs)) ∧ KDx (Fz h' H') kvs kds) →
  (∀ J, ItOk J (sel kds) (StI Sd h1 H1) → R' J H1) → w σ H1 R'
def keysD (kds : List (Key × D)) : List D := kds.map fun kv => kD kv.1
def valsD (kds : List (Key × D)) : List D := kds.map fun kv => kv.2
def itemsD (kds : List (Key × D)) : List D := kds.map fun kv => .tup [kD kv.1, kv.2]
theorem it_keys {h1 : Hs} {H1 : Hp} {d : Addr} {od : Obj} {kvs : List (Key × V)} {kds : List (Key × D)} (w : ∀ h' H', RelH h' H' → StI Sd h1 H1 h' H' → H' d = some (.frz od (.dK kvs)) ∧ KDx (Fz h' H') kvs kds) (l : kvs.length = kds.length) : ItOk (Itk d od kvs) (keysD kds) (StI Sd h1 H1) := by
  have hl : (keysD kds).length = kvs.length := by unfold keysD; rw [List.length_map, l]
  refine ⟨fun H' => H' d = some (.frz od (.dK kvs)), fun i H x H' => H' = H ∧ ∃ k v, kvs[i]? = some (k, v) ∧ x = kV k, by rw [hl]; exact walk_keys, fun h' H' r s => (w h' H' r s).1, ?_⟩
  rintro i h' H2 x H3 r s ⟨rfl, k, v, e, rfl⟩
  obtain ⟨dd, ed, dx⟩ := (w h' _ r s).2.get e
  exact ⟨kD k, by unfold keysD; rw [List.getElem?_map, ed]; rfl, dx_key k, r, Same.refl _⟩
theorem it_vals {h1 : Hs} {H1 : Hp} {d : Addr} {od : Obj} {kvs : List (Key × V)} {kds : List (Key × D)} (w : ∀ h' H', RelH h' H' → StI Sd h1 H1 h' H' → H' d = some (.frz od (.dK kvs)) ∧ KDx (Fz h' H') kvs kds) (l : kvs.length = kds.length) : ItOk (Itd d od kvs) (valsD kds) (StI Sd h1 H1) := by
  have hl : (valsD kds).length = kvs.length := by unfold valsD; rw [List.length_map, l]
  refine ⟨fun H' => H' d = some (.frz od (.dK kvs)), fun i H x H' => H' = H ∧ ∃ k, kvs[i]? = some (k, x), by rw [hl]; exact walk_values, fun h' H' r s => (w h' H' r s).1, ?_⟩
  rintro i h' H2 x H3 r s ⟨rfl, k, e⟩
  obtain ⟨dd, ed, dx⟩ := (w h' _ r s).2.get e
  exact ⟨dd, by unfold valsD; rw [List.getElem?_map, ed]; rfl, dx, r, Same.refl _⟩
theorem it_items {h1 : Hs} {H1 : Hp} {d : Addr} {od : Obj} {kvs : List (Key × V)} {kds : List (Key × D)} (w : ∀ h' H', RelH h' H' → StI Sd h1 H1 h' H' → H' d = some (.frz od (.dK kvs)) ∧ KDx (Fz h' H') kvs kds) (l : kvs.length = kds.length) : ItOk (Iti d od kvs) (itemsD kds) (StI Sd h1 H1) := by
  have hl : (itemsD kds).length = kvs.length := by unfold itemsD; rw [List.length_map, l]
  refine ⟨fun H' => H' d = some (.frz od (.dK kvs)), _, by rw [hl]; exact walk_items, fun h' H' r s => (w h' H' r s).1, ?_⟩
  rintro i h' H2 x H3 r s ⟨T, u, v, rfl, nT, rfl, e1, e2⟩
  have e1 : (kvs[i]?.map fun kv => kV kv.1) = some u := e1
  have e2 : kvs[i]?.map Prod.snd = some v := e2
  cases q : kvs[i]? with
  | none => rw [q] at e1; cases e1
  | some kv =>
    rw [q] at e1 e2
    cases e1
    cases e2
    obtain ⟨dd, ed, dx⟩ := (w h' _ r s).2.get (k := kv.1) (v := kv.2) q
    obtain ⟨dp, rp, sp⟩ := pair_new r nT (dx_key kv.1) dx
    exact ⟨.tup [kD kv.1, dd], by unfold itemsD; rw [List.getElem?_map, ed]; rfl, dp, rp, sp⟩
theorem w_keys {td : TE} : WalksD (iKeys td) td keysD := fun σ H1 d od kvs kds h1 Sd R' ht e w k => by
  refine ht _ ⟨d, od, rfl, .inl ⟨kvs, e, ?_⟩⟩
  by_cases q : kvs.length = kds.length
  · exact k _ (it_keys w q)
  · refine k _ ⟨fun H' => False, fun _ _ _ _ => False, ⟨fun _ _ _ z => z.elim, fun _ z => z.elim, fun _ _ _ _ _ z => z.elim⟩, fun h' H' r s => q (w h' H' r s).2.len, fun _ _ _ _ _ _ _ z => z.elim⟩
theorem w_keysM {td : TE} : WalksD (iKeysM td) td keysD := fun σ H1 d od kvs kds h1 Sd R' ht e w k => by
  refine ht _ ⟨d, od, kvs, rfl, e, ?_⟩
  by_cases q : kvs.length = kds.length
  · exact k _ (it_keys w q)
  · refine k _ ⟨fun H' => False, fun _ _ _ _ => False, ⟨fun _ _ _ z => z.elim, fun _ z => z.elim, fun _ _ _ _ _ z => z.elim⟩, fun h' H' r s => q (w h' H' r s).2.len, fun _ _ _ _ _ _ _ z => z.elim⟩
theorem w_vals {td : TE} : WalksD (iVals td) td valsD := fun σ H1 d od kvs kds h1 Sd R' ht e w k => by
  refine ht _ ⟨d, od, kvs, rfl, e, ?_⟩
  by_cases q : kvs.length = kds.length
  · exact k _ (it_vals w q)
  · refine k _ ⟨fun H' => False, fun _ _ _ _ => False, ⟨fun _ _ _ z => z.elim, fun _ z => z.elim, fun _ _ _ _ _ z => z.elim⟩, fun h' H' r s => q (w h' H' r s).2.len, fun _ _ _ _ _ _ _ z => z.elim⟩
theorem w_items {td : TE} : WalksD (iItems td) td itemsD := fun σ H1 d od kvs kds h1 Sd R' ht e w k => by
  refine ht _ ⟨d, od, kvs, rfl, e, ?_⟩
  by_cases q : kvs.length = kds.length
  · exact k _ (it_items w q)
  · refine k _ ⟨fun H' => False, fun _ _ _ _ => False, ⟨fun _ _ _ z => z.elim, fun _ z => z.elim, fun _ _ _ _ _ z => z.elim⟩, fun h' H' r s => q (w h' H' r s).2.len, fun _ _ _ _ _ _ _ z => z.elim⟩
/-- all that is known of a walk over data, from where it is locked -/
theorem walk_in {h : Hs} {H1 : Hp} {d : Addr} {od : Obj} {kvs : List (Key × V)} {kds : List (Key × D)} (n : h d = none) (e : H1 d = some (.frz od (.dK kvs))) (z : KDx (Fz h H1) kvs kds) :
    ∀ h' H', RelH h' H' → StI (fun _ => True) h H1 h' H' → H' d = some (.frz od (.dK kvs)) ∧ KDx (Fz h' H') kvs kds := fun h' H' r s =>
  ⟨(fz_some (s.2 d _ (by rw [fz_out n]; exact e))).2, z.ks, z.vs.mono s.2⟩
/-- where d is data: the turns under the lock, or under one that is there -/
theorem lock_cases {A : Prop} {kds : List (Key × D)} {σ : L2.St} {H : Hp} {v : V} (rl : Rel ρ h σ H) (dv : Dx (Fz h H) v (.dK kds))
    (new : ∀ (d : Addr) (kvs : List (Key × V)), v = .ref d → h d = none → H d = some (.dK kvs) → KDx (Fz h H) kvs kds → A)
    (old : ∀ (d : Addr) (od : Obj) (kvs : List (Key × V)), v = .ref d → h d = none → H d = some (.frz od (.dK kvs)) → KDx (Fz h H) kvs kds → A) : A := by
  cases dv with
  | @dK d u kvs _ e eu a b =>
    obtain ⟨n, e⟩ := fz_some e
    rcases un_dK eu with rfl | ⟨o, rfl⟩
    · exact new d kvs rfl n e ⟨a, b⟩
    · exact old d o kvs rfl n e ⟨a, b⟩
/-- for k in d, d data -/
theorem d_lockFor {w : TI} {td : TE} {sel : List (Key × D) → List D} {g : TG} {t : TS} {E : DEnds} {kds : List (Key × D)} (hw : WalksD w td sel) (hd : Det td ρ h (.dK kds)) (z : dFor g t E ρ (sel kds) (fun _ => True) h) : dS (tLockU (tFor w g t)) E ρ h := fun σ H E' rl p => by
  obtain ⟨v, dv, k⟩ := hd σ H rl
  refine lock_cases rl dv (fun d kvs ev n e kz => ?_) (fun d od kvs ev n e kz => ?_)
  · subst ev
    refine .inl ⟨d, _, e, True.intro, fun od => ?_⟩
    have s1 := uHH (o := od) e
    have r1 := rel_u rl n s1
    have e1 : upd H d (.frz od (.dK kvs)) d = some (.frz od (.dK kvs)) := upd_same
    refine r_for (hw σ _ d od kvs kds h (fun _ => True) _ (fun Q q => k _ s1 Q q) e1 (walk_in n e1 ⟨kz.ks, kz.vs.monoU (fz_u s1)⟩) fun J it => forgo_of r1 ?_ it z)
    refine ⟨fun ρ' h' σ' H' q r s => ?_, fun x h' v' H' q dx r s => ?_, fun ρ' h' σ' H' q r s => ?_, fun ρ' h' σ' H' q r s => ?_⟩
    · obtain ⟨a1, a2, a3, a4⟩ := unlock e n s
      exact ⟨a1, p.nx ρ' h' σ' _ q (rel_u r a2 a3) a4⟩
    · obtain ⟨a1, a2, a3, a4⟩ := unlock e n s
      exact ⟨a1, p.rt x h' v' _ q (dx.monoU (fz_u a3)) (relH_u r a2 a3) a4⟩
    · obtain ⟨a1, a2, a3, a4⟩ := unlock e n s
      exact ⟨a1, p.bk ρ' h' σ' _ q (rel_u r a2 a3) a4⟩
    · obtain ⟨a1, a2, a3, a4⟩ := unlock e n s
      exact ⟨a1, p.ct ρ' h' σ' _ q (rel_u r a2 a3) a4⟩
  · subst ev
    refine .inr (r_for (hw σ H d od kvs kds h (fun _ => True) _ (fun Q q => k H (sameU (Same.refl H)) Q q) e (walk_in n e kz) fun J it => forgo_of rl p it z))
/-- [.. for k in d], d data -/
theorem d_lockLc {w : TI} {td : TE} {sel : List (Key × D) → List D} {g : TG} {tt : TT} {te : TE} {vs : List Nat} {Q : QD} {kds : List (Key × D)} (hw : WalksD w td sel) (hd : Det td ρ h (.dK kds)) (z : dLcGo g tt te vs ρ Q (sel kds) (fun _ => True) h) : dE (tLockEU (tLc w g tt te vs)) ρ h Q := fun σ H Q' rl p => by
  obtain ⟨v, dv, k⟩ := hd σ H rl
  refine lock_cases rl dv (fun d kvs ev n e kz => ?_) (fun d od kvs ev n e kz => ?_)
  · subst ev
    refine .inl ⟨d, _, e, True.intro, fun od => ?_⟩
    have s1 := uHH (o := od) e
    have r1 := rel_u rl n s1
    have e1 : upd H d (.frz od (.dK kvs)) d = some (.frz od (.dK kvs)) := upd_same
    refine r_lc (hw σ _ d od kvs kds h (fun _ => True) _ (fun Q q => k _ s1 Q q) e1 (walk_in n e1 ⟨kz.ks, kz.vs.monoU (fz_u s1)⟩) fun J it => lcgo_of r1 ?_ it z)
    refine fun x h' v' H' q dx r s => ?_
    obtain ⟨a1, a2, a3, a4⟩ := unlock e n s
    exact ⟨a1, p x h' v' _ q (dx.monoU (fz_u a3)) (relH_u r a2 a3) a4⟩
  · subst ev
    refine .inr (r_lc (hw σ H d od kvs kds h (fun _ => True) _ (fun Q q => k H (sameU (Same.refl H)) Q q) e (walk_in n e kz) fun J it => lcgo_of rl p it z))
/-- a cell under a lock, and behind it -/
theorem RelH.lockC {H : Hp} {d : Addr} {od : Obj} {kds : List (Key × D)} {kvs : List (Key × V)} (r : RelH h H) (e : h d = some (.dK kds)) (e2 : H d = some (.dK kvs)) (kz : KDx (Fz h H) kvs kds) :
    RelH (seth h d (.dKl od kvs kds)) (upd H d (.frz od (.dK kvs))) ∧ Sm h H (seth h d (.dKl od kvs kds)) (upd H d (.frz od (.dK kvs))) :=
  r.write e (fun _ q => nomatch q) (fun q => nomatch q) ⟨upd_same, kz.ks, kz.vs⟩ (fun _ q => nomatch q)
theorem RelH.unlockC {H : Hp} {d : Addr} {od : Obj} {kds : List (Key × D)} {kvs : List (Key × V)} (r : RelH h H) (e : h d = some (.dKl od kvs kds)) :
    H d = some (.frz od (.dK kvs)) ∧ RelH (seth h d (.dK kds)) (upd H d (.dK kvs)) ∧ Sm h H (seth h d (.dK kds)) (upd H d (.dK kvs)) := by
  obtain ⟨e3, a, b⟩ := r.cell d _ e
  exact ⟨e3, r.write e (fun _ q => nomatch q) (fun q => nomatch q) ⟨kvs, upd_same, a, b⟩ (fun _ q => nomatch q)⟩
/-- what is wanted behind the lock of a cell -/
def lockE (d : Addr) (od : Obj) (kvs : List (Key × V)) (kds : List (Key × D)) (E : DEnds) : DEnds :=
  ⟨fun ρ' h' => h' d = some (.dKl od kvs kds) ∧ E.nx ρ' (seth h' d (.dK kds)), fun x h' => h' d = some (.dKl od kvs kds) ∧ E.rt x (seth h' d (.dK kds)), fun ρ' h' => h' d = some (.dKl od kvs kds) ∧ E.bk ρ' (seth h' d (.dK kds)), fun ρ' h' => h' d = some (.dKl od kvs kds) ∧ E.ct ρ' (seth h' d (.dK kds))⟩
/-- for k in d, d a cell -/
theorem d_lockForC {w : TI} {td : TE} {sel : List (Key × D) → List D} {g : TG} {t : TS} {E : DEnds} {d : Addr} {kds : List (Key × D)} (hw : WalksD w td sel) (hd : Det td ρ h (.ref d)) (e : h d = some (.dK kds))
    (z : ∀ od kvs, dFor g t (lockE d od kvs kds E) ρ (sel kds) (fun h' => h' d = some (.dKl od kvs kds)) (seth h d (.dKl od kvs kds))) : dS (tLockU (tFor w g t)) E ρ h := fun σ H E' rl p => by
  obtain ⟨v, dv, k⟩ := hd σ H rl
  cases dv
  obtain ⟨kvs, e2, a, b⟩ := rl.rh.cell d _ e
  have kz : KDx (Fz h H) kvs kds := ⟨a, b⟩
  refine .inl ⟨d, _, e2, True.intro, fun od => ?_⟩
  have s1 := uHH (o := od) e2
  obtain ⟨rh1, sm1⟩ := rl.rh.lockC (od := od) e e2 kz
  have r1 := rl.step rh1 sm1
  have e1 : upd H d (.frz od (.dK kvs)) d = some (.frz od (.dK kvs)) := upd_same
  refine r_for (hw σ _ d od kvs kds (seth h d (.dKl od kvs kds)) (fun h' => h' d = some (.dKl od kvs kds)) _ (fun Q q => k _ s1 Q q) e1 ?_ fun J it => forgo_of r1 ?_ it (z od kvs))
  · intro h' H' r s
    obtain ⟨e3, a3, b3⟩ := r.cell d _ s.1
    exact ⟨e3, a3, b3⟩
  · refine ⟨fun ρ' h' σ' H' q r s => ?_, fun x h' v' H' q dx r s => ?_, fun ρ' h' σ' H' q r s => ?_, fun ρ' h' σ' H' q r s => ?_⟩
    · obtain ⟨a1, a2, a3⟩ := r.rh.unlockC q.1
      exact ⟨a1, p.nx ρ' _ σ' _ q.2 (r.step a2 a3) (sm1.trans (s.trans a3))⟩
    · obtain ⟨a1, a2, a3⟩ := r.unlockC q.1
      exact ⟨a1, p.rt x _ v' _ q.2 (dx.mono a3) a2 (sm1.trans (s.trans a3))⟩
    · obtain ⟨a1, a2, a3⟩ := r.rh.unlockC q.1
      exact ⟨a1, p.bk ρ' _ σ' _ q.2 (r.step a2 a3) (sm1.trans (s.trans a3))⟩
    · obtain ⟨a1, a2, a3⟩ := r.rh.unlockC q.1
      exact ⟨a1, p.ct ρ' _ σ' _ q.2 (r.step a2 a3) (sm1.trans (s.trans a3))⟩
/-- [.. for k in d], d a cell -/
theorem d_lockLcC {w : TI} {td : TE} {sel : List (Key × D) → List D} {g : TG} {tt : TT} {te : TE} {vs : List Nat} {Q : QD} {d : Addr} {kds : List (Key × D)} (hw : WalksD w td sel) (hd : Det td ρ h (.ref d)) (e : h d = some (.dK kds))
    (z : ∀ od kvs, dLcGo g tt te vs ρ (fun x h' => h' d = some (.dKl od kvs kds) ∧ Q x (seth h' d (.dK kds))) (sel kds) (fun h' => h' d = some (.dKl od kvs kds)) (seth h d (.dKl od kvs kds))) : dE (tLockEU (tLc w g tt te vs)) ρ h Q := fun σ H E' rl p => by
  obtain ⟨v, dv, k⟩ := hd σ H rl
  cases dv
  obtain ⟨kvs, e2, a, b⟩ := rl.rh.cell d _ e
  have kz : KDx (Fz h H) kvs kds := ⟨a, b⟩
  refine .inl ⟨d, _, e2, True.intro, fun od => ?_⟩
  have s1 := uHH (o := od) e2
  obtain ⟨rh1, sm1⟩ := rl.rh.lockC (od := od) e e2 kz
  have r1 := rl.step rh1 sm1
  have e1 : upd H d (.frz od (.dK kvs)) d = some (.frz od (.dK kvs)) := upd_same
  refine r_lc (hw σ _ d od kvs kds (seth h d (.dKl od kvs kds)) (fun h' => h' d = some (.dKl od kvs kds)) _ (fun Q q => k _ s1 Q q) e1 ?_ fun J it => lcgo_of r1 ?_ it (z od kvs))
  · intro h' H' r s
    obtain ⟨e3, a3, b3⟩ := r.cell d _ s.1
    exact ⟨e3, a3, b3⟩
  · intro x h' v' H' q dx r s
    obtain ⟨a1, a2, a3⟩ := r.unlockC q.1
    exact ⟨a1, p x _ v' _ q.2 (dx.mono a3) a2 (sm1.trans (s.trans a3))⟩
end
end GX

set_option Elab.async false
set_option linter.all false
set_option maxRecDepth 100000
set_option maxHeartbeats 4000000
/-! ### rules that leave the kinds of their operands open -/
namespace GX
open PySem L2 PySem.Spec PyProof.Rows
section
variable {X : Cx} {K : PySem.W.Frag}
theorem OpR.or {f : Value → Value → Sem Value} {r1 r2 : R2} (a : OpR X f r1) (b : OpR X f r2) : OpR X f (fun x y H Q => r1 x y H Q ∨ r2 x y H Q) := by
  intro pins s σ H x y v u Q I rx ry h
  rcases h with h | h
  · exact a pins s σ H x y v u Q I rx ry h
  · exact b pins s σ H x y v u Q I rx ry h
theorem CallR.or {f : Value} {r1 r2 : List V → Hp → VK → Prop} (a : CallR X f r1) (b : CallR X f r2) : CallR X f (fun xs H Q => r1 xs H Q ∨ r2 xs H Q) := by
  intro pins s σ H xs us Q I r h
  rcases h with h | h
  · exact a pins s σ H xs us Q I r h
  · exact b pins s σ H xs us Q I r h
theorem SlR.or {r1 r2 : V → Option Int → Option Int → Hp → VK → Prop} (a : SlR X r1) (b : SlR X r2) : SlR X (fun x l u H Q => r1 x l u H Q ∨ r2 x l u H Q) := by
  intro pins s σ H x v vl vu lo hi sl Q I rx hs pl pu h
  rcases h with h | h
  · exact a pins s σ H x v vl vu lo hi sl Q I rx hs pl pu h
  · exact b pins s σ H x v vl vu lo hi sl Q I rx hs pl pu h
def rAddI : R2 := rI0 fun i j => .int (i + j)
def rAddS : R2 := fun x y H Q => ∃ i j, x = .str i ∧ y = .str j ∧ i.length + j.length ≤ sizeLine ∧ Q (.str (i ++ j)) H
def rAddG (K : PySem.W.Frag) : R2 := fun x y H Q => rAddI x y H Q ∨ rAddS x y H Q ∨ rCat x y H Q ∨ rCatA K x y H Q
theorem op_addG (hK : X.K = K) : OpR X (binaryOp .Add) (rAddG K) := hK ▸ OpR.or op_add (OpR.or op_add_str (OpR.or op_cat op_catA))
def rMulI : R2 := rI CMulW fun i j => .int (i * j)
def rMulG (K : PySem.W.Frag) : R2 := fun x y H Q => rMulI x y H Q ∨ rRep x y H Q ∨ rRepT K x y H Q
theorem op_mulG (hK : X.K = K) : OpR X (binaryOp .Mult) (rMulG K) := hK ▸ OpR.or op_mulW (OpR.or op_rep op_repT)
def rEqG (K : PySem.W.Frag) : R2 := fun x y H Q => rEq x y H Q ∨ rEqD K x y H Q
def rNeG (K : PySem.W.Frag) : R2 := fun x y H Q => rNe x y H Q ∨ rNeD K x y H Q
theorem op_eqG (hK : X.K = K) (hu : X.A.units + 64 < cLine) : OpR X (compareOp .Eq) (rEqG K) := OpR.or op_eq (op_eqDK hK hu)
theorem op_neG (hK : X.K = K) (hu : X.A.units + 64 < cLine) : OpR X (compareOp .NotEq) (rNeG K) := OpR.or op_ne (op_neDK hK hu)
def rLtS : R2 := fun x y H Q => ∃ i j, x = .str i ∧ y = .str j ∧ Q (.bl (decide (i.cps.toList < j.cps.toList))) H
def rInSign : R2 := fun x y H Q => ∃ (c : Nat) (z : Str), x = .str ⟨#[c]⟩ ∧ y = .str z ∧ Q (.bl (decide (c ∈ z.cps.toList))) H
def rNotInSign : R2 := fun x y H Q => ∃ (c : Nat) (z : Str), x = .str ⟨#[c]⟩ ∧ y = .str z ∧ Q (.bl (!decide (c ∈ z.cps.toList))) H
def rInG (K : PySem.W.Frag) : R2 := fun x y H Q => rIn K false x y H Q ∨ rInSign x y H Q ∨ rInD K x y H Q
def rNinG (K : PySem.W.Frag) : R2 := fun x y H Q => rIn K true x y H Q ∨ rNotInSign x y H Q ∨ rNotInD K x y H Q
theorem op_inG (hK : X.K = K) (hu : X.A.units + 65 < cLine) : OpR X (compareOp .In) (rInG K) := OpR.or (op_inK hK) (OpR.or op_in_sign (hK ▸ op_inD hu))
theorem op_ninG (hK : X.K = K) (hu : X.A.units + 65 < cLine) : OpR X (compareOp .NotIn) (rNinG K) := OpR.or (op_ninK hK) (OpR.or op_notIn_sign (hK ▸ op_notInD hu))
/-- len(d), list(d): d may be walked meanwhile -/
def rLenR : List V → Hp → VK → Prop := fun xs H Q => ∃ a kvs, xs = [V.ref a] ∧ Rd H a (.dK kvs) ∧ Q (.int kvs.length) H
theorem call_lenR : CallR X (.builtin "len") rLenR := by
  rintro pins z σ G xs us Q I r ⟨a, kvs, rfl, rd, q⟩
  obtain ⟨u, rfl, ru⟩ := vals1 r
  cases ru
  exact d_len I rd fun t z1 J => ⟨.int kvs.length, G, J, ⟨t, rfl⟩, q⟩
def rListR : List V → Hp → VK → Prop := fun xs H Q => ∃ a kvs, xs = [V.ref a] ∧ Rd H a (.dK kvs) ∧ ∀ p, H p = none → Q (.ref p) (upd H p (.lst (kvs.map fun kv => kV kv.1)))
theorem call_listR (hc : X.calm = true) : CallR X (.type "list") rListR := by
  rintro pins z σ G xs us Q I r ⟨a, kvs, rfl, rd, q⟩
  obtain ⟨u, rfl, ru⟩ := vals1 r
  cases ru
  obtain ⟨small, low, ws, rel, dct⟩ := rd.ok I.hok
  obtain ⟨ep, spot⟩ := dct.dictAt
  have same : kvs.length = ws.length := Paired.length rel
  refine PySem.W.kdl_call (PySem.W.kdl_dict (knd := mixKind X.prog X.w) (kvs := ws) (ep := ep) low) (I.ok.hd hc) spot (same ▸ small) ?_
  intro m tk got c kept stands told
  have keys : (kvs.map fun kv => kV kv.1) = (kvs.map (·.1)).map kV := by rw [List.map_map]; rfl
  have vs : Vals (kvs.map fun kv => kV kv.1) got.toList := by
    refine vals_of_at ?_ ?_
    · have el : got.toList.length = got.size := by simp
      rw [List.length_map, el, told.1, same]
    · intro j x v hx hv
      obtain ⟨k, y, hk, his⟩ := told.2 j v (by rw [← Array.getElem?_toList]; exact hv)
      have e1 : (kvs.map (·.1))[j]? = some k := by
        rw [KV.keys rel, List.getElem?_map, hk]
        rfl
      rw [keys, List.getElem?_map, e1] at hx
      cases hx
      exact keyIs_rel his
  have ok : ObjOk X.prog X.w (upd G z.heap.objs.size (.lst (kvs.map fun kv => kV kv.1))) m z.heap.objs.size (.lst (kvs.map fun kv => kV kv.1)) :=
    ⟨by rw [List.length_map]; exact small, got.toList, c, vs, by rw [Array.toArray_toList]; exact stands⟩
  exact ⟨.ref z.heap.objs.size, _, I.laid kept (Nat.le_refl _) ok, rfl, q _ (I.hok.fresh (Nat.le_refl _))⟩
def rLenA (K : PySem.W.Frag) : List V → Hp → VK → Prop := fun xs H Q => rLenG K xs H Q ∨ rLenR xs H Q
theorem call_lenA (hK : X.K = K) : CallR X (.builtin "len") (rLenA K) := CallR.or (call_lenG hK) call_lenR
def rListA (K : PySem.W.Frag) : List V → Hp → VK → Prop := fun xs H Q => rListOf K xs H Q ∨ rListR xs H Q
theorem call_listA (hK : X.K = K) (hc : X.calm = true) : CallR X (.type "list") (rListA K) := CallR.or (call_listK hK) (call_listR hc)
/-- a target: a tuple or a list, unpacked -/
def gSeq (K : PySem.W.Frag) (n : Nat) (t : TGs) : TG := fun v σ H Q => gTup K n t v σ H Q ∨ gLst K n t v σ H Q
theorem pg_seqK {es : List Expr} {kk n : Nat} {pos : Pos} {t : TGs} (hK : X.K = K) (hc : X.calm = true) (k : PGs X es t) (hn : (assignEach es X.env).length = n := by rfl) (hst : (assignEach es X.env).findIdx? (·.1) = none := by rfl) :
    PG X (.Tuple es kk pos) (gSeq K n t) where
  run := fun pins s σ H v u Q I r hw => by
    subst hK
    rcases hw with hw | hw
    · exact (pg_tup hc k hn hst).run pins s σ H v u Q I r hw
    · exact (pg_lst hc k hn hst).run pins s σ H v u Q I r hw
def rSlG (K : PySem.W.Frag) : V → Option Int → Option Int → Hp → VK → Prop := fun x l u H Q => rSlL K x l u H Q ∨ rSlA K x l u H Q ∨ rSlS x l u H Q
theorem sl_G (hK : X.K = K) : SlR X (rSlG K) := hK ▸ SlR.or sl_list (SlR.or sl_tupA sl_str)
theorem call_sortedIK (hK : X.K = K) (hc : CallR X (.builtin "sorted") (rSortedI X.K)) : CallR X (.builtin "sorted") (rSortedI K) := hK ▸ hc
end
section
variable {h : Hs} {Q : QD} {K : PySem.W.Frag} {x y d : D} {i j : Int} {xs ys ds : List D} {a b : Str} {l u : Option Int}
theorem dR2.il {r1 r2 : R2} (z : dR2 r1 x y h Q) : dR2 (fun x y H Q => r1 x y H Q ∨ r2 x y H Q) x y h Q := fun v w H Q' r dx dy p => .inl (z v w H Q' r dx dy p)
theorem dR2.ir {r1 r2 : R2} (z : dR2 r2 x y h Q) : dR2 (fun x y H Q => r1 x y H Q ∨ r2 x y H Q) x y h Q := fun v w H Q' r dx dy p => .inr (z v w H Q' r dx dy p)
theorem w_addI (q : Q (.int (i + j)) h) : dR2 (rAddG K) (.int i) (.int j) h Q := dR2.il (v_I0i q)
theorem w_addS (hl : a.length + b.length ≤ 1000000) (q : Q (.str (a ++ b)) h) : dR2 (rAddG K) (.str a) (.str b) h Q := dR2.ir (dR2.il (v_addS hl q))
theorem w_cat (hx : LsV h x xs) (hy : LsV h y ys) (hl : xs.length + ys.length ≤ 1000000) (q : Fresh (xs ++ ys) h Q) : dR2 (rAddG K) x y h Q := dR2.ir (dR2.ir (dR2.il (v_cat hx hy hl q)))
theorem w_catT (hl : xs.length + ys.length ≤ 1000000) (q : Q (.tup (xs ++ ys)) h) : dR2 (rAddG K) (.tup xs) (.tup ys) h Q := dR2.ir (dR2.ir (dR2.ir (v_catA hl q)))
theorem w_mulI (c : CMulW i j) (q : Q (.int (i * j)) h) : dR2 (rMulG K) (.int i) (.int j) h Q := dR2.il (v_Ii c q)
theorem w_rep1 (hx : LsV h x [d]) (hi : i ≤ 1000000 ∧ 0 ≤ i) (q : Fresh (List.replicate i.toNat d) h Q) : dR2 (rMulG K) x (.int i) h Q := dR2.ir (dR2.il (v_rep1 hx hi.1 hi.2 q))
theorem w_eqI (q : Q (.bl (decide (i = j))) h) : dR2 (rEqG K) (.int i) (.int j) h Q := dR2.il (v_eqI q)
theorem w_eqS (q : Q (.bl (decide (a = b))) h) : dR2 (rEqG K) (.str a) (.str b) h Q := dR2.il (v_eqS q)
theorem w_eqB {k m : Bool} (q : Q (.bl (decide (k = m))) h) : dR2 (rEqG K) (.bl k) (.bl m) h Q := dR2.il (v_eqB q)
theorem w_neI (q : Q (.bl (!decide (i = j))) h) : dR2 (rNeG K) (.int i) (.int j) h Q := dR2.il (v_neI q)
theorem w_neS (q : Q (.bl (!decide (a = b))) h) : dR2 (rNeG K) (.str a) (.str b) h Q := dR2.il (v_neS q)
theorem w_neB {k m : Bool} (q : Q (.bl (!decide (k = m))) h) : dR2 (rNeG K) (.bl k) (.bl m) h Q := dR2.il (v_neB q)
/-- what may be compared -/
def cmpOk (x : D) : Prop := okP x = true ∧ SeqAt.shaped (toP x) = true
theorem w_eqD (o1 : cmpOk x) (o2 : cmpOk y) (q : Q (.bl (PyData.eqv (toP x) (toP y))) h) : dR2 (rEqG K) x y h Q := dR2.ir (v_eqD o1.1 o2.1 o1.2 o2.2 q)
theorem w_neD (o1 : cmpOk x) (o2 : cmpOk y) (q : Q (.bl (!PyData.eqv (toP x) (toP y))) h) : dR2 (rNeG K) x y h Q := dR2.ir (v_neD o1.1 o2.1 o1.2 o2.2 q)
theorem w_inS {zs : List Str} (hv : SqV h x (zs.map .str)) (q : Q (.bl (decide (a ∈ zs))) h) : dR2 (rInG K) (.str a) x h Q := dR2.il (v_inS hv q)
theorem w_ninS {zs : List Str} (hv : SqV h x (zs.map .str)) (q : Q (.bl (!decide (a ∈ zs))) h) : dR2 (rNinG K) (.str a) x h Q := dR2.il (v_inS hv q)
theorem w_inI {zs : List Int} (hv : SqV h x (zs.map .int)) (q : Q (.bl (decide (i ∈ zs))) h) : dR2 (rInG K) (.int i) x h Q := dR2.il (v_inI hv q)
theorem w_ninI {zs : List Int} (hv : SqV h x (zs.map .int)) (q : Q (.bl (!decide (i ∈ zs))) h) : dR2 (rNinG K) (.int i) x h Q := dR2.il (v_inI hv q)
theorem w_inSign {c : Nat} (q : Q (.bl (decide (c ∈ a.cps.toList))) h) : dR2 (rInG K) (.str ⟨#[c]⟩) (.str a) h Q := dR2.ir (dR2.il (v_inSign q))
theorem dRA.il {r1 r2 : List V → Hp → VK → Prop} (z : dRA r1 xs h Q) : dRA (fun xs H Q => r1 xs H Q ∨ r2 xs H Q) xs h Q := fun v H Q' r dx p => .inl (z v H Q' r dx p)
theorem dRA.ir {r1 r2 : List V → Hp → VK → Prop} (z : dRA r2 xs h Q) : dRA (fun xs H Q => r1 xs H Q ∨ r2 xs H Q) xs h Q := fun v H Q' r dx p => .inr (z v H Q' r dx p)
theorem w_len (hv : SqV h x ds) (q : Q (.int ds.length) h) : dRA (rLenA K) [x] h Q := dRA.il (v_lenG hv q)
theorem w_lenS (hl : a.length ≤ 1000000) (q : Q (.int a.length) h) : dRA (rLenA K) [.str a] h Q := dRA.il (v_lenGS hl q)
theorem v_lenR {kds : List (Key × D)} (hv : DkV h x kds) (q : Q (.int kds.length) h) : dRA rLenR [x] h Q := fun vs H Q' r dx p => by
  cases dx with
  | cons dx dn =>
    cases dn
    obtain ⟨b, kvs, rfl, e, z⟩ := hv.at r dx
    exact ⟨b, kvs, rfl, e, post_id p r (.int _) (by rw [z.len]; exact q)⟩
theorem v_listR {kds : List (Key × D)} (hv : DkV h x kds) (q : Fresh (kds.map fun kv => kD kv.1) h Q) : dRA rListR [x] h Q := fun vs H Q' r dx p => by
  cases dx with
  | cons dx dn =>
    cases dn
    obtain ⟨b, kvs, rfl, e, z⟩ := hv.at r dx
    refine ⟨b, kvs, rfl, e, fun l nl => q.post p r nl ?_⟩
    have e1 : (kvs.map fun kv => kV kv.1) = (kvs.map (·.1)).map kV := by rw [List.map_map]; rfl
    have e2 : (kds.map fun kv => kD kv.1) = (kds.map (·.1)).map kD := by rw [List.map_map]; rfl
    rw [e1, e2, z.ks]
    exact dxA_keys _
theorem w_lenD {kds : List (Key × D)} (hv : DkV h x kds) (q : Q (.int kds.length) h) : dRA (rLenA K) [x] h Q := dRA.ir (v_lenR hv q)
theorem w_listD {kds : List (Key × D)} (hv : DkV h x kds) (q : Fresh (kds.map fun kv => kD kv.1) h Q) : dRA (rListA K) [x] h Q := dRA.ir (v_listR hv q)
theorem w_list (hv : SqV h x ds) (q : Fresh ds h Q) : dRA (rListA K) [x] h Q := dRA.il (v_listOf hv q)
theorem dRS.il {r1 r2 : V → Option Int → Option Int → Hp → VK → Prop} (z : dRS r1 x l u h Q) : dRS (fun x l u H Q => r1 x l u H Q ∨ r2 x l u H Q) x l u h Q := fun v H Q' r dx p => .inl (z v H Q' r dx p)
theorem dRS.ir {r1 r2 : V → Option Int → Option Int → Hp → VK → Prop} (z : dRS r2 x l u h Q) : dRS (fun x l u H Q => r1 x l u H Q ∨ r2 x l u H Q) x l u h Q := fun v H Q' r dx p => .inr (z v H Q' r dx p)
theorem w_slL (hv : LsV h x ds) (q : Fresh (dcut ds l u) h Q) : dRS (rSlG K) x l u h Q := dRS.il (v_slL hv q)
theorem w_slT (q : Q (.tup (dcut ds l u)) h) : dRS (rSlG K) (.tup ds) l u h Q := dRS.ir (dRS.il (v_slA q))
theorem w_slS (hl : a.length ≤ 1000000) (q : Q (.str (cutS a l u)) h) : dRS (rSlG K) (.str a) l u h Q := dRS.ir (dRS.ir (v_slS hl q))
theorem w_ixL (hv : LsV h x ds) (e : atI ds i = some d) (q : Q d h) : dR2 (rIx K) x (.int i) h Q := v_ix1 (v_ixL hv e q)
theorem w_ixT (e : atI ds i = some d) (q : Q d h) : dR2 (rIx K) (.tup ds) (.int i) h Q := v_ix2 (v_ixT e q)
theorem w_ixS {c : Nat} (hl : a.length ≤ 1000000) (e : atI a.cps.toList i = some c) (q : Q (.str ⟨#[c]⟩) h) : dR2 (rIx K) (.str a) (.int i) h Q := v_ix3 (v_ixS hl e q)
theorem g_seqT {n : Nat} {gs : TGs} {W : List Nat} {ρ : Rho} {N : Rho → Hs → Prop} (hl : xs.length = n) (z : dGs W gs xs ρ h N) : dG W (gSeq K n gs) (.tup xs) ρ h N := fun σ H v N' rl dx p => .inl (g_tup hl z σ H v N' rl dx p)
theorem g_seqL {n : Nat} {gs : TGs} {W : List Nat} {ρ : Rho} {N : Rho → Hs → Prop} (hx : LsV h x xs) (hl : xs.length = n) (z : dGs W gs xs ρ h N) : dG W (gSeq K n gs) x ρ h N := fun σ H v N' rl dx p => by
  obtain ⟨a, vs, rfl, e, a1⟩ := hx.at rl.rh dx
  exact .inr ⟨a, vs, rfl, .of e, by rw [a1.len]; exact hl, z σ H vs N' rl a1 p⟩
/-! ### the source -/
theorem fz_but {h : Hs} {H H' : Hp} {p : Addr} {o : DO} (e : h p = some o) (b : But p H H') : Fz h H' = Fz h H := by
  funext c
  by_cases q : c = p
  · subst q
    rw [fz_in e, fz_in e]
  · unfold Fz
    rw [b c q]
theorem relH_but {h : Hs} {H H' : Hp} {p la : Addr} (r : RelH h H) (e : h p = some (.src la)) (b : But p H H') (s : Src H' p la) : RelH h H' := by
  have f := fz_but e b
  refine ⟨fun c o ec => ?_, r.src⟩
  rw [f]
  by_cases q : c = p
  · subst q
    rw [e] at ec
    cases ec
    exact s
  · refine (r.cell c o ec).mono (sameU (Same.refl _)) (b c q) fun lb ez => ?_
    subst ez
    refine b lb ?_
    rintro rfl
    have := r.src c _ ec
    rw [e] at this
    cases this
end
/-- a number below a bound, drawn -/
def tDraw : TD := fun ds h Q => ∃ (a la : Addr) (m : Int), ds = [.ref a, .int m] ∧ h a = some (.src la) ∧ 0 < m ∧ m < 2 ^ 200 ∧ ∀ j : Int, 0 ≤ j → j < m → Q (.int j) h
end GX
namespace GX
open PySem L2
theorem units65 {k : Nat} {A : Around} (r : Room k A) : A.units + 65 < cLine := by have := r.un; omega
end GX

set_option Elab.async false
set_option linter.all false
set_option maxRecDepth 100000
set_option maxHeartbeats 4000000
/-! ### words for loops and comprehensions over data -/
namespace GX
open PySem L2 PySem.Spec
/-- what a walk needs stands, whatever new comes -/
def SdOk (Sd : Hs → Prop) (h : Hs) : Prop := (∀ p o, h p = none → Sd h → Sd (seth h p o)) ∧ Sd h
theorem SdOk.t {h : Hs} : SdOk (fun _ => True) h := ⟨fun _ _ _ _ => trivial, trivial⟩
theorem SdOk.c {h : Hs} {a : Addr} {o : DO} (e : h a = some o) : SdOk (fun h => h a = some o) h := ⟨fun p u n e => (seth_ne (h_ne e n)).trans e, e⟩
theorem SdOk.and {h : Hs} {S T : Hs → Prop} (a : SdOk S h) (b : SdOk T h) : SdOk (fun h => S h ∧ T h) h := ⟨fun p o n s => ⟨a.1 p o n s.1, b.1 p o n s.2⟩, a.2, b.2⟩
section
variable {ρ : Rho} {h : Hs} {Q : QD} {E : DEnds} {g : TG} {t : TS} {tt : TT} {te : TE} {vs : List Nat} {ds : List D} {Sd : Hs → Prop} {α β : Type}
theorem weak_wipe (ρ : Rho) (N : List Nat) : (wipeD ρ N).length = ρ.length ∧ ∀ (i : Nat) (d : D), (wipeD ρ N)[i]? = some (some d) → ρ[i]? = some (some d) := ⟨wipeD_len ρ N, fun i d e => by
  rw [wipeD_get] at e
  split at e
  · cases e
  · exact e⟩
theorem dG.slots {W : List Nat} {x : D} {ρ' : Rho} {N : Rho → Hs → Prop} (z : dG W g x ρ' h N) (l : ρ'.length = ρ.length) (w : ∀ (i : Nat) d, ρ'[i]? = some (some d) → ρ[i]? = some (some d)) : dG W g x ρ h N := fun σ H v N' rl dx p => z σ H v N' (rl.weak l w) dx p
/-- a for over data; N: the slots that are forgotten at each turn -/
theorem for_D (N : List Nat) (l : List α) (inj : α → D) (hds : ds = l.map inj) (Pv : Nat → Rho → Hs → Prop) (h0 : Pv 0 (wipeD ρ N) h) (hS : ∀ i ρ h, i ≤ l.length → Pv i ρ h → Sd h)
    (hs : ∀ (i : Nat) (a : α) ρ h, l[i]? = some a → Pv i ρ h → ∃ W, dG W g (inj a) ρ h fun ρ1 h1 => dS t ⟨fun ρ h => Pv (i + 1) (wipeD ρ N) h, E.rt, E.nx, fun ρ h => Pv (i + 1) (wipeD ρ N) h⟩ ρ1 h1)
    (hd : ∀ ρ h, Pv l.length ρ h → dS tNext E ρ h) : dFor g t E ρ ds Sd h := by
  subst hds
  refine ⟨fun i ρ h => Pv i (wipeD ρ N) h, h0, fun i ρ h hi p => hS i _ h (by rwa [List.length_map] at hi) p, fun i x ρ h e p => ?_, fun ρ h p => ?_⟩
  · obtain ⟨a, ea, rfl⟩ := get_map e
    obtain ⟨W, z⟩ := hs i a _ h ea p
    exact ⟨W, z.slots (weak_wipe ρ N).1 (weak_wipe ρ N).2⟩
  · rw [List.length_map] at p
    exact (hd _ h p).slots (weak_wipe ρ N).1 (weak_wipe ρ N).2
/-- .. by what is behind -/
theorem for_P (N : List Nat) (l : List α) (inj : α → D) (hds : ds = l.map inj) (Pv : List α → Rho → Hs → Prop) (h0 : Pv [] (wipeD ρ N) h) (hS : ∀ pre ρ h, Pv pre ρ h → Sd h)
    (hs : ∀ pre a post ρ h, l = pre ++ a :: post → Pv pre ρ h → ∃ W, dG W g (inj a) ρ h fun ρ1 h1 => dS t ⟨fun ρ h => Pv (pre ++ [a]) (wipeD ρ N) h, E.rt, E.nx, fun ρ h => Pv (pre ++ [a]) (wipeD ρ N) h⟩ ρ1 h1)
    (hd : ∀ ρ h, Pv l ρ h → dS tNext E ρ h) : dFor g t E ρ ds Sd h := by
  refine for_D N l inj hds (fun i ρ h => Pv (l.take i) ρ h) (by rw [List.take_zero]; exact h0) (fun i ρ h _ p => hS _ ρ h p) (fun i a ρ h e p => ?_) (fun ρ h p => hd ρ h (by rwa [List.take_length] at p))
  have hi := (List.getElem?_eq_some_iff.mp e).1
  have ea := (List.getElem?_eq_some_iff.mp e).2
  have z := hs (l.take i) a (l.drop (i + 1)) ρ h (by rw [← ea, List.getElem_cons_drop, List.take_append_drop]) p
  have et : l.take (i + 1) = l.take i ++ [a] := by rw [List.take_succ, e]; rfl
  rw [et]
  exact z
theorem tyes {R : Bool → Hs → Prop} {ρ : Rho} {h : Hs} (z : R true h) : dT tYes ρ h R := d_yes z
/-- what is made so far: acc, by a function of the items -/
theorem lc_gen (l : List α) (inj : α → D) (outj : β → D) (hds : ds = l.map inj) (Pv : Nat → List β → Prop) (hn : l.length ≤ 1000000) (hS : SdOk Sd h) (h0 : Pv 0 [])
    (hs : ∀ (p : Addr) (acc : List β) (i : Nat) (a : α), h p = none → l[i]? = some a → Pv i acc → acc.length ≤ i → dG vs g (inj a) (wipeD ρ vs) (seth h p (.lst (acc.map outj))) fun ρ1 h1 => h1 = seth h p (.lst (acc.map outj)) ∧
      dT tt ρ1 h1 fun b h2 => h2 = seth h p (.lst (acc.map outj)) ∧ if b = true then dE te ρ1 h2 fun y h3 => h3 = seth h p (.lst (acc.map outj)) ∧ ∃ b, y = outj b ∧ Pv (i + 1) (acc ++ [b]) else Pv (i + 1) acc)
    (hd : ∀ bs : List β, bs.length ≤ l.length → Pv l.length bs → Fresh (bs.map outj) h Q) : dLcGo g tt te vs ρ Q ds Sd h := by
  subst hds
  refine ⟨by rw [List.length_map]; exact hn, fun i acc => ∃ bs : List β, acc = bs.map outj ∧ Pv i bs, ⟨[], rfl, h0⟩, hS.1, hS.2, ?_, ?_⟩
  · rintro p i acc x np ex ⟨bs, rfl, hb⟩ hl
    obtain ⟨a, ea, rfl⟩ := get_map ex
    have z := hs p bs i a np ea hb (by rwa [List.length_map] at hl)
    refine fun σ H v N' rl dx q => z σ H v N' rl dx fun ρ' h' σ' H' q1 r s l2 u => q ρ' h' σ' H' ⟨q1.1, ?_⟩ r s l2 u
    refine fun σ2 H2 R2 rl2 p2 => q1.2 σ2 H2 R2 rl2 fun b h3 H3 q3 r3 s3 => p2 b h3 H3 ⟨q3.1, ?_⟩ r3 s3
    cases b with
    | true =>
      rw [if_pos rfl]
      have q4 := q3.2
      rw [if_pos rfl] at q4
      refine q4.mono fun y h3 q5 => ⟨q5.1, ?_⟩
      obtain ⟨b, rfl, hR⟩ := q5.2
      exact ⟨bs ++ [b], by rw [List.map_append]; rfl, hR⟩
    | false =>
      have q4 := q3.2
      rw [if_neg Bool.false_ne_true] at q4 ⊢
      exact ⟨bs, rfl, q4⟩
  · rintro acc hl ⟨bs, rfl, hb⟩
    rw [List.length_map] at hl hb
    exact hd bs (by rwa [List.length_map] at hl) hb
/-- [.. for x in l]: what each item is; drawn or not -/
theorem lc_rel (l : List α) (inj : α → D) (outj : β → D) (R : Nat → α → β → Prop) (hds : ds = l.map inj) (hn : l.length ≤ 1000000) (hS : SdOk Sd h)
    (hs : ∀ (p : Addr) (acc : List D) (i : Nat) (a : α), h p = none → l[i]? = some a → dG vs g (inj a) (wipeD ρ vs) (seth h p (.lst acc)) fun ρ1 h1 => h1 = seth h p (.lst acc) ∧ dE te ρ1 h1 fun y h3 => h3 = seth h p (.lst acc) ∧ ∃ b, y = outj b ∧ R i a b)
    (hd : ∀ bs : List β, bs.length = l.length → (∀ i a b, l[i]? = some a → bs[i]? = some b → R i a b) → Fresh (bs.map outj) h Q) : dLcGo g tYes te vs ρ Q ds Sd h := by
  refine lc_gen l inj outj hds (fun i bs => bs.length = i ∧ ∀ j a b, l[j]? = some a → bs[j]? = some b → R j a b) hn hS ⟨rfl, fun j a b _ e => by cases e⟩ ?_ ?_
  · rintro p bs i a np ea ⟨hl, hb⟩ _
    have z := hs p (bs.map outj) i a np ea
    refine fun σ H v N' rl dx q => z σ H v N' rl dx fun ρ' h' σ' H' q1 r s l2 u => q ρ' h' σ' H' ⟨q1.1, d_yes ⟨q1.1, ?_⟩⟩ r s l2 u
    rw [if_pos rfl]
    refine q1.2.mono fun y h3 q3 => ⟨q3.1, ?_⟩
    obtain ⟨b, rfl, hR⟩ := q3.2
    refine ⟨b, rfl, by rw [List.length_append, hl]; rfl, fun j a' b' e1 e2 => ?_⟩
    by_cases hj : j < bs.length
    · rw [List.getElem?_append_left hj] at e2
      exact hb j a' b' e1 e2
    · rw [List.getElem?_append_right (by omega)] at e2
      cases q0 : j - bs.length with
      | zero =>
        rw [q0] at e2
        cases e2
        have : j = i := by omega
        subst this
        rw [ea] at e1
        cases e1
        exact hR
      | succ m => rw [q0] at e2; cases e2
  · rintro bs _ ⟨hl, hb⟩
    exact hd bs hl hb
/-- .. a function of it -/
theorem lc_map (l : List α) (inj : α → D) (f : α → D) (hds : ds = l.map inj) (hn : l.length ≤ 1000000) (hS : SdOk Sd h)
    (hs : ∀ (p : Addr) (acc : List D) (i : Nat) (a : α), h p = none → l[i]? = some a → dG vs g (inj a) (wipeD ρ vs) (seth h p (.lst acc)) fun ρ1 h1 => h1 = seth h p (.lst acc) ∧ dE te ρ1 h1 fun y h3 => h3 = seth h p (.lst acc) ∧ y = f a)
    (hd : Fresh (l.map f) h Q) : dLcGo g tYes te vs ρ Q ds Sd h := by
  refine lc_rel l inj id (fun _ a b => b = f a) hds hn hS ?_ ?_
  · intro p acc i a np ea
    have z := hs p acc i a np ea
    refine fun σ H v N' rl dx q => z σ H v N' rl dx fun ρ' h' σ' H' q1 r s l2 u => q ρ' h' σ' H' ⟨q1.1, ?_⟩ r s l2 u
    exact q1.2.mono fun y h3 q3 => ⟨q3.1, y, rfl, q3.2⟩
  · intro bs hl hb
    rw [List.map_id]
    have : bs = l.map f := List.ext_getElem? fun i => by
      rw [List.getElem?_map]
      cases e : l[i]? with
      | none => rw [List.getElem?_eq_none (by rw [hl]; exact List.getElem?_eq_none_iff.mp e)]; rfl
      | some a =>
        have hi := (List.getElem?_eq_some_iff.mp e).1
        rw [List.getElem?_eq_getElem (by omega), hb i a _ e (List.getElem?_eq_getElem (by omega))]
        rfl
    rw [this]
    exact hd
/-- .. with a test -/
theorem lc_flt (l : List α) (inj : α → D) (c : α → Bool) (f : α → D) (hds : ds = l.map inj) (hn : l.length ≤ 1000000) (hS : SdOk Sd h)
    (hs : ∀ (p : Addr) (acc : List D) (i : Nat) (a : α), h p = none → l[i]? = some a → dG vs g (inj a) (wipeD ρ vs) (seth h p (.lst acc)) fun ρ1 h1 => h1 = seth h p (.lst acc) ∧
      dT tt ρ1 h1 fun b h2 => h2 = seth h p (.lst acc) ∧ b = c a ∧ (c a = true → dE te ρ1 h2 fun y h3 => h3 = seth h p (.lst acc) ∧ y = f a))
    (hd : Fresh ((l.filter c).map f) h Q) : dLcGo g tt te vs ρ Q ds Sd h := by
  refine lc_gen l inj id hds (fun i bs => bs = ((l.take i).filter c).map f) hn hS (by rw [List.take_zero]; rfl) ?_ ?_
  · rintro p bs i a np ea rfl _
    have z := hs p (((l.take i).filter c).map f) i a np ea
    rw [List.map_id]
    refine fun σ H v N' rl dx q => z σ H v N' rl dx fun ρ' h' σ' H' q1 r s l2 u => q ρ' h' σ' H' ⟨q1.1, ?_⟩ r s l2 u
    refine fun σ2 H2 R2 rl2 p2 => q1.2 σ2 H2 R2 rl2 fun b h3 H3 q3 r3 s3 => p2 b h3 H3 ⟨q3.1, ?_⟩ r3 s3
    obtain ⟨_, rfl, q4⟩ := q3
    have et : l.take (i + 1) = l.take i ++ [a] := by rw [List.take_succ, ea]; rfl
    by_cases hc : c a = true
    · rw [if_pos hc]
      refine (q4 hc).mono fun y h3 q5 => ⟨q5.1, y, rfl, ?_⟩
      rw [q5.2, et, List.filter_append, List.map_append, List.filter_cons, if_pos hc]
      rfl
    · rw [if_neg hc, et, List.filter_append, List.filter_cons, if_neg hc, List.filter_nil, List.append_nil]
  · rintro bs _ rfl
    rw [List.map_id, List.take_length]
    exact hd
end
end GX
/-! ### small answers -/
namespace GX
open PySem L2 PySem.Spec
section
variable {h : Hs} {ds : List D} {C : Addr} {fs : List (Str × D)} {x y : D}
theorem x_rg1 {j : Int} {R : Int → Prop} (b : -(2 ^ 62) ≤ j ∧ j < 2 ^ 62) (q : R j) : ∃ k : Int, [D.int j] = [.int k] ∧ (-(2 ^ 62) ≤ k ∧ k < 2 ^ 62) ∧ R k := ⟨j, rfl, b, q⟩
theorem x_rg2 {i j : Int} {R : Int → Int → Prop} (b : -(2 ^ 62) ≤ i ∧ i < 2 ^ 62 ∧ -(2 ^ 62) ≤ j ∧ j < 2 ^ 62) (q : R i j) : ∃ i' j' : Int, [D.int i, .int j] = [.int i', .int j'] ∧ (-(2 ^ 62) ≤ i' ∧ i' < 2 ^ 62 ∧ -(2 ^ 62) ≤ j' ∧ j' < 2 ^ 62) ∧ R i' j' := ⟨i, j, rfl, b, q⟩
theorem x_part {i : Int} {R : Int → Prop} (q : R i) : ∃ k, D.int i = .int k ∧ R k := ⟨i, rfl, q⟩
theorem x_strE {s : Str} {R : Str → Prop} (q : R s) : ∃ k, D.str s = .str k ∧ R k := ⟨s, rfl, q⟩
theorem x_seqF {R : List D → (Hs → Prop) → Prop} (q : R ds fun _ => True) : ∃ es Sd, SqI h (.lst ds) es Sd ∧ R es Sd := ⟨ds, _, .f, q⟩
theorem x_seqT {R : List D → (Hs → Prop) → Prop} (q : R ds fun _ => True) : ∃ es Sd, SqI h (.tup ds) es Sd ∧ R es Sd := ⟨ds, _, .t, q⟩
theorem x_seqC {a : Addr} {R : List D → (Hs → Prop) → Prop} (e : h a = some (.lst ds)) (q : R ds fun h => h a = some (.lst ds)) : ∃ es Sd, SqI h (.ref a) es Sd ∧ R es Sd := ⟨ds, _, .c e, q⟩
theorem x_lstF {R : List D → (Hs → Prop) → Prop} (q : R ds fun _ => True) : ∃ y es Sd, [D.lst ds] = [y] ∧ LsI h y es Sd ∧ R es Sd := ⟨_, ds, _, rfl, .f, q⟩
theorem x_lstC {a : Addr} {R : List D → (Hs → Prop) → Prop} (e : h a = some (.lst ds)) (q : R ds fun h => h a = some (.lst ds)) : ∃ y es Sd, [D.ref a] = [y] ∧ LsI h y es Sd ∧ R es Sd := ⟨_, ds, _, rfl, .c e, q⟩
theorem x_size {xs : List D} {R : Prop} (b : xs.length ≤ 1000) (q : R) : xs.length ≤ 1000000 ∧ R := ⟨Nat.le_trans b (by decide), q⟩
theorem x_isL {R : Prop} {a : Addr} (e : h a = some (.lst ds)) (q : R) : (∃ es, LsV h (.ref a) es) ∧ R := ⟨⟨ds, .c e⟩, q⟩
theorem x_isLf {R : Prop} (q : R) : (∃ es, LsV h (.lst ds) es) ∧ R := ⟨⟨ds, .f⟩, q⟩
theorem x_fldF {K : PySem.W.Frag} {f : Str} {R : D → Prop} (c : Cls K C) (n : NoAttr K C f) (l : fs.lookup f = some y) (q : R y) : ∃ C' fs' y', InsV h (.ins C fs) C' fs' ∧ Cls K C' ∧ NoAttr K C' f ∧ fs'.lookup f = some y' ∧ R y' := ⟨C, fs, y, .f, c, n, l, q⟩
theorem x_fldC {K : PySem.W.Frag} {f : Str} {a : Addr} {R : D → Prop} (e : h a = some (.ins C fs)) (c : Cls K C) (n : NoAttr K C f) (l : fs.lookup f = some y) (q : R y) : ∃ C' fs' y', InsV h (.ref a) C' fs' ∧ Cls K C' ∧ NoAttr K C' f ∧ fs'.lookup f = some y' ∧ R y' := ⟨C, fs, y, .c e, c, n, l, q⟩
theorem x_methF {m : Str} {R : Prop} (l : fs.lookup m = none) (q : R) : ∃ fs', InsV h (.ins C fs) C fs' ∧ fs'.lookup m = none ∧ R := ⟨fs, .f, l, q⟩
theorem x_methC {m : Str} {a : Addr} {R : Prop} (e : h a = some (.ins C fs)) (l : fs.lookup m = none) (q : R) : ∃ fs', InsV h (.ref a) C fs' ∧ fs'.lookup m = none ∧ R := ⟨fs, .c e, l, q⟩
theorem d_retF {te : TE} {E : DEnds} {ρ : Rho} (z : dE te ρ h fun x h1 => ∃ y h2, Frz h1 x y h2 ∧ E.rt y h2) : dS (tRet te) E ρ h := d_ret (d_frz z)
theorem frz0 {R : D → Hs → Prop} (q : R x h) : ∃ y h2, Frz h x y h2 ∧ R y h2 := ⟨x, h, .id, q⟩
theorem g_nameV {n : Nat} {vs : List Nat} {ρ : Rho} {N : Rho → Hs → Prop} (hm : n ∈ vs) (z : N (ρ.set n (some x)) h) : dG vs (gName n) x ρ h N := fun σ H v N' rl dx p =>
  p _ h _ H z (rl.set dx n) (Same.refl _) (List.length_set ..) fun i hi => List.getElem?_set_ne fun q => hi (by rw [← q]; exact hm)
theorem g_nilV {vs : List Nat} {ρ : Rho} {N : Rho → Hs → Prop} (z : N ρ h) : dGs vs gNil [] ρ h N := fun σ H v N' rl dx p => by
  cases dx
  exact ⟨rfl, p ρ h σ H z rl (Same.refl _) rfl fun _ _ => rfl⟩
theorem g_consV {vs : List Nat} {g : TG} {gs : TGs} {xs : List D} {ρ : Rho} {N : Rho → Hs → Prop} (z : dG vs g x ρ h fun ρ1 h1 => dGs vs gs xs ρ1 h1 N) : dGs vs (gCons g gs) (x :: xs) ρ h N := fun σ H us N' rl dx p => by
  cases dx with
  | cons d1 dx =>
    refine ⟨_, _, rfl, z σ H _ _ rl d1 fun ρ1 h1 σ1 H1 q r s l1 u => q σ1 H1 _ N' r (dx.mono s) fun ρ2 h2 σ2 H2 q2 r2 s2 l2 u2 => ?_⟩
    exact p ρ2 h2 σ2 H2 q2 r2 (s.trans s2) (l2.trans l1) fun i hi => (u2 i hi).trans (u i hi)
theorem x_same {P : Prop} {h : Hs} (q : P) : h = h ∧ P := ⟨rfl, q⟩
theorem Fresh.toF {ds : List D} {Q : QD} (f : Fresh ds h Q) : Fresh ds h fun x h1 => ∃ y h2, Frz h1 x y h2 ∧ Q y h2 := by
  rcases f with q | q
  · exact .inl (frz0 q)
  · exact .inr fun a na => frz0 (q a na)
theorem x_M {R : Str → Prop} {s : Str} (q : R s) : ∃ a, D.str s = .str a ∧ R a := ⟨s, rfl, q⟩
end
section
variable {ρ : Rho} {h : Hs} {E : DEnds} {t : TS} {c : TT}
theorem dT.slots {ρ' : Rho} {R : Bool → Hs → Prop} (z : dT c ρ' h R) (l : ρ'.length = ρ.length) (w : ∀ (i : Nat) d, ρ'[i]? = some (some d) → ρ[i]? = some (some d)) : dT c ρ h R := fun σ H Q' rl p => z σ H Q' (rl.weak l w) p
theorem dT.mono {R R2 : Bool → Hs → Prop} (z : dT c ρ h R) (k : ∀ b h, R b h → R2 b h) : dT c ρ h R2 := fun σ H Q' rl p => z σ H Q' rl fun b h' H' q r s => p b h' H' (k b h' q) r s
/-- a while; N: the slots that are forgotten at each turn -/
theorem while_D (N : List Nat) (W : Nat → Rho → Hs → Prop) (m0 : Nat) (w0 : W m0 (wipeD ρ N) h)
    (hs : ∀ m ρ h, W m ρ h → dT c ρ h fun b h1 => if b = true then dS t ⟨fun ρ h => ∃ m', m' < m ∧ W m' (wipeD ρ N) h, E.rt, E.nx, fun ρ h => ∃ m', m' < m ∧ W m' (wipeD ρ N) h⟩ ρ h1 else dS tNext E ρ h1) : dS (tWhile c t) E ρ h := by
  refine d_while (fun m ρ h => W m (wipeD ρ N) h) m0 w0 fun m ρ h w => ?_
  refine ((hs m _ h w).slots (weak_wipe ρ N).1 (weak_wipe ρ N).2).mono fun b h1 q => ?_
  cases b with
  | true =>
    rw [if_pos rfl] at q ⊢
    exact q.slots (weak_wipe ρ N).1 (weak_wipe ρ N).2
  | false =>
    rw [if_neg Bool.false_ne_true] at q ⊢
    exact q.slots (weak_wipe ρ N).1 (weak_wipe ρ N).2
end
theorem cmul_small {i j : Int} (hi : -1000000000000 ≤ i ∧ i ≤ 1000000000000) (hj : -1000000000000 ≤ j ∧ j ≤ 1000000000000) : CMulW i j := by
  have big : (1000000000000 : Nat) < 2 ^ 40 := by decide
  exact wide_mul (a := 40) (b := 40) (by omega) (by omega) (by decide) (by decide) (by decide)
end GX

set_option Elab.async false
set_option linter.all false
set_option maxRecDepth 100000
set_option maxHeartbeats 4000000
/-! ### names, words: the mathematics -/
namespace GX
open PySem L2 PySem.Spec TL
def alphabet : Str := "abcdefghijklmnopqrstuvwxyz"
/-- whether a text is a name -/
def isNm (z : Str) : Bool := (decide (1 ≤ (z.length : Int)) && decide ((z.length : Int) ≤ 8)) &&
  z.cps.toList.all fun c => decide (c ∈ alphabet.cps.toList)
/-- a text of these signs -/
def txt (cs : List Nat) : Str := ⟨cs.toArray⟩
abbrev one (c : Nat) : Str := ⟨#[c]⟩
theorem join_ones : ∀ cs : List Nat, joinL [] (cs.map fun c => [c]) = cs
  | [] => rfl
  | [_] => rfl
  | a :: b :: r => by
    show [a] ++ ([] ++ joinL [] ((b :: r).map fun c => [c])) = a :: b :: r
    rw [join_ones (b :: r)]
    rfl
theorem joined_ones (cs : List Nat) : Txt.join Str.empty (cs.map one) = txt cs := by
  rw [join_eq]
  have e := tl_join Str.empty (cs.map one)
  rw [List.map_map] at e
  refine ext_tl (e.trans ((join_ones cs).trans ?_))
  unfold tl txt
  simp
theorem ones_len (cs : List Nat) : ((cs.map one).map (·.length)).sum = cs.length := by
  induction cs with
  | nil => rfl
  | cons c r ih =>
    show 1 + ((r.map one).map (·.length)).sum = r.length + 1
    rw [ih]
    omega
theorem ones_v (cs : List Nat) : (cs.map one).map V.str = cs.map fun c => V.str (one c) := by
  rw [List.map_map]
  rfl
theorem perm_map_inv {α β : Type} (f : α → β) {ys zs : List β} (h : ys.Perm zs) : ∀ l : List α, zs = l.map f → ∃ l' : List α, ys = l'.map f ∧ l'.Perm l := by
  induction h with
  | nil =>
    intro l e
    cases l with
    | nil => exact ⟨[], rfl, List.Perm.refl _⟩
    | cons => cases e
  | cons x _ ih =>
    intro l e
    cases l with
    | nil => cases e
    | cons a l =>
      rw [List.map_cons] at e
      obtain ⟨e1, e2⟩ := List.cons.inj e
      obtain ⟨l', h1, h2⟩ := ih l e2
      exact ⟨a :: l', by rw [List.map_cons, h1, e1], h2.cons a⟩
  | swap x y _ =>
    intro l e
    cases l with
    | nil => cases e
    | cons a l =>
      cases l with
      | nil => cases e
      | cons b l =>
        rw [List.map_cons, List.map_cons] at e
        obtain ⟨e1, e2⟩ := List.cons.inj e
        obtain ⟨e2, e3⟩ := List.cons.inj e2
        exact ⟨b :: a :: l, by rw [List.map_cons, List.map_cons, e1, e2, e3], List.Perm.swap _ _ _⟩
  | trans _ _ ih1 ih2 =>
    intro l e
    obtain ⟨l2, h1, h2⟩ := ih2 l e
    obtain ⟨l3, h3, h4⟩ := ih1 l2 h1
    exact ⟨l3, h3, h4.trans h2⟩
theorem dcut_take {α : Type} {xs : List α} (n : Nat) : dcut xs none (some (n : Int)) = xs.take n := by
  unfold dcut
  rw [HT.sIx_none, HT.sIx_nat]
  show (xs.drop 0).take (min n xs.length - 0) = _
  rw [List.drop_zero, Nat.sub_zero]
  by_cases h : n ≤ xs.length
  · rw [Nat.min_eq_left h]
  · rw [Nat.min_eq_right (by omega), List.take_of_length_le (Nat.le_refl _), List.take_of_length_le (by omega)]
theorem cutS_take {cs : List Nat} (n : Nat) : cutS (txt cs) none (some (n : Int)) = txt (cs.take n) := by
  have e : (txt cs).length = cs.length := rfl
  unfold cutS
  rw [HT.sIx_none, HT.sIx_nat, e]
  show txt ((cs.drop 0).take (min n cs.length - 0)) = _
  rw [List.drop_zero, Nat.sub_zero]
  by_cases h : n ≤ cs.length
  · rw [Nat.min_eq_left h]
  · rw [Nat.min_eq_right (by omega), List.take_of_length_le (Nat.le_refl _), List.take_of_length_le (by omega)]
theorem cutS_drop {cs : List Nat} (n : Nat) : cutS (txt cs) (some (n : Int)) none = txt (cs.drop n) := by
  have e : (txt cs).length = cs.length := rfl
  unfold cutS
  rw [HT.sIx_none, HT.sIx_nat, e]
  show txt ((cs.drop (min n cs.length)).take (cs.length - min n cs.length)) = _
  by_cases h : n ≤ cs.length
  · rw [Nat.min_eq_left h, List.take_of_length_le (by rw [List.length_drop]; exact Nat.le_refl _)]
  · rw [Nat.min_eq_right (by omega), Nat.sub_self, List.take_zero, List.drop_of_length_le (by omega)]
theorem txt_app (a b : List Nat) : txt a ++ txt b = txt (a ++ b) := by
  show (⟨a.toArray ++ b.toArray⟩ : Str) = ⟨(a ++ b).toArray⟩
  rw [List.append_toArray]
theorem txt_inj {a b : List Nat} (h : txt a = txt b) : a = b := by
  have := congrArg (fun z : Str => z.cps.toList) h
  exact this
theorem isNm_txt {l : List Nat} (h1 : 1 ≤ l.length) (h8 : l.length ≤ 8) (h : ∀ c ∈ l, c ∈ alphabet.cps.toList) : isNm (txt l) = true := by
  have e : (txt l).length = l.length := rfl
  unfold isNm
  rw [e, decide_eq_true (by omega), decide_eq_true (by omega)]
  exact List.all_eq_true.mpr fun c hc => decide_eq_true (h c hc)
/-- distinct names -/
structure Names (zs : List Str) : Prop where
  nd : zs.Nodup
  nm : ∀ z ∈ zs, isNm z = true ∧ z.length ≤ 8
theorem Names.sub {zs ys : List Str} (h : Names zs) (s : ys.Sublist zs) : Names ys := ⟨h.nd.sublist s, fun z hz => h.nm z (s.subset hz)⟩
theorem names_made (cs ls : List Nat) (j : Nat) (h7 : cs.length ≤ 7) (h : ∀ c ∈ cs, c ∈ alphabet.cps.toList) (nd : ls.Nodup) (hl : ∀ c ∈ ls, c ∈ alphabet.cps.toList) :
    Names (ls.map fun c => txt (cs.take j ++ [c] ++ cs.drop j)) := by
  have len : ∀ c, (cs.take j ++ [c] ++ cs.drop j).length = cs.length + 1 := fun c => by
    rw [List.length_append, List.length_append, List.length_take, List.length_drop]
    show min j cs.length + 1 + (cs.length - j) = _
    omega
  refine ⟨List.nodup_iff_pairwise_ne.mpr ?_, ?_⟩
  · rw [List.pairwise_map]
    refine (List.nodup_iff_pairwise_ne.mp nd).imp fun {a b} ne e => ne ?_
    have e := txt_inj e
    rw [List.append_assoc, List.append_assoc] at e
    have e := List.append_cancel_left e
    exact (List.cons.inj e).1
  · intro z hz
    obtain ⟨c, hc, rfl⟩ := List.mem_map.mp hz
    refine ⟨isNm_txt (by rw [len]; omega) (by rw [len]; omega) fun d hd => ?_, ?_⟩
    · rcases List.mem_append.mp hd with h1 | h1
      · rcases List.mem_append.mp h1 with h2 | h2
        · exact h d (List.mem_of_mem_take h2)
        · rw [List.mem_singleton.mp h2]
          exact hl c hc
      · exact h d (List.mem_of_mem_drop h1)
    · show (cs.take j ++ [c] ++ cs.drop j).length ≤ 8
      rw [len]
      omega
theorem alpha_nd : alphabet.cps.toList.Nodup := by decide +kernel
theorem alpha_len : alphabet.cps.size = 26 := by decide +kernel
theorem dcut_drop {α : Type} {xs : List α} (n : Nat) : dcut xs (some (n : Int)) none = xs.drop n := by
  unfold dcut
  rw [HT.sIx_none, HT.sIx_nat]
  by_cases h : n ≤ xs.length
  · rw [Nat.min_eq_left h, List.take_of_length_le (by rw [List.length_drop]; exact Nat.le_refl _)]
  · rw [Nat.min_eq_right (by omega), Nat.sub_self, List.take_zero, List.drop_of_length_le (by omega)]
theorem lts_of {vs : List D} {l : List Nat} (h : vs.Perm (l.map fun c => .str (one c))) : ∃ l' : List Nat, vs = l'.map (fun c => .str (one c)) ∧ l'.Perm l := perm_map_inv _ h l rfl
theorem signsD_one (z : Str) : signsD z = z.cps.toList.map fun c => .str (one c) := rfl
theorem rngD_nat (n : Nat) : rngD 0 1 (n : Int).toNat = (List.range n).map fun i : Nat => D.int (i : Int) := by
  unfold rngD
  rw [Int.toNat_natCast]
  refine List.map_congr_left fun i _ => ?_
  rw [Int.zero_add, Int.mul_one]
theorem rngD_n (n : Nat) : rngD 0 1 n = (List.range n).map fun i : Nat => D.int (i : Int) := by
  have := rngD_nat n
  rwa [Int.toNat_natCast] at this
theorem map_map' {α β γ : Type} (f : α → β) (g : β → γ) (l : List α) : l.map (fun x => g (f x)) = (l.map f).map g := by rw [List.map_map]; rfl
theorem isNm_no1 {z : Str} (e : decide (1 ≤ (z.length : Int)) = false) : isNm z = false := by unfold isNm; rw [e]; rfl
theorem isNm_no2 {z : Str} (e : decide ((z.length : Int) ≤ 8) = false) : isNm z = false := by unfold isNm; rw [e, Bool.and_false, Bool.false_and]
theorem isNm_yes {z : Str} (e : decide (1 ≤ (z.length : Int)) = true) (f : decide ((z.length : Int) ≤ 8) = true) : isNm z = (z.cps.toList.map fun c => decide (c ∈ alphabet.cps.toList)).all id := by unfold isNm; rw [e, f, List.all_map]; rfl
end GX

set_option Elab.async false
set_option linter.all false
set_option maxRecDepth 100000
set_option maxHeartbeats 4000000
namespace Toy
open PySem L2 GX PySem.Spec TL
def top (i : Nat) : Stmt := PySem.Challenge.pw_fewvouch_k14_null_rows_told.main.body.getD i (.Pass ⟨0, 0, 0, 0⟩)
/-! ### the defs of the text, by their places -/
abbrev s__law_source : Stmt := top 8
abbrev s__law_draw : Stmt := top 9
abbrev s__law_of : Stmt := top 10
abbrev s__law_same : Stmt := top 11
abbrev s_gcd : Stmt := top 1
abbrev s_common : Stmt := top 2
abbrev s_primitive : Stmt := top 3
abbrev s_cleared : Stmt := top 5
abbrev s_echelon : Stmt := top 4
abbrev s_null_rows : Stmt := top 6
abbrev s__law_is_integer : Stmt := top 12
abbrev s__law_common : Stmt := top 13
abbrev s__law_lowered : Stmt := top 14
abbrev s__law_basis : Stmt := top 15
abbrev s__law_depends : Stmt := top 16
abbrev s__law_integer : Stmt := top 17
abbrev s__law_row : Stmt := top 18
abbrev s_law : Stmt := top 19
/-- where each def and class stands -/
structure Env where
  f__law_source : Addr
  d__law_source : FuncData
  f__law_draw : Addr
  d__law_draw : FuncData
  f__law_of : Addr
  d__law_of : FuncData
  f__law_same : Addr
  d__law_same : FuncData
  f_gcd : Addr
  d_gcd : FuncData
  f_common : Addr
  d_common : FuncData
  f_primitive : Addr
  d_primitive : FuncData
  f_cleared : Addr
  d_cleared : FuncData
  f_echelon : Addr
  d_echelon : FuncData
  f_null_rows : Addr
  d_null_rows : FuncData
  f__law_is_integer : Addr
  d__law_is_integer : FuncData
  f__law_common : Addr
  d__law_common : FuncData
  f__law_lowered : Addr
  d__law_lowered : FuncData
  f__law_basis : Addr
  d__law_basis : FuncData
  f__law_depends : Addr
  d__law_depends : FuncData
  f__law_integer : Addr
  d__law_integer : FuncData
  f__law_row : Addr
  d__law_row : FuncData
/-- what the top has left -/
structure Txt (K : PySem.W.Frag) (mg : Str → Option Value) (e : Env) : Prop where
  F__law_source : Fun K "_law_source" "_law_source" s__law_source e.f__law_source e.d__law_source
  b__law_source : Binds K e.d__law_source ["_law_script"] []
  g__law_source : mg "_law_source" = some (.ref e.f__law_source)
  F__law_draw : Fun K "_law_draw" "_law_draw" s__law_draw e.f__law_draw e.d__law_draw
  b__law_draw : Binds K e.d__law_draw ["_law_src", "_law_many"] []
  g__law_draw : mg "_law_draw" = some (.ref e.f__law_draw)
  F__law_of : Fun K "_law_of" "_law_of" s__law_of e.f__law_of e.d__law_of
  b__law_of : Binds K e.d__law_of ["_law_src", "_law_some"] []
  g__law_of : mg "_law_of" = some (.ref e.f__law_of)
  F__law_same : Fun K "_law_same" "_law_same" s__law_same e.f__law_same e.d__law_same
  b__law_same : Binds K e.d__law_same ["_law_found", "_law_due"] []
  g__law_same : mg "_law_same" = some (.ref e.f__law_same)
  F_gcd : Fun K "gcd" "gcd" s_gcd e.f_gcd e.d_gcd
  b_gcd : Binds K e.d_gcd ["one", "other"] []
  g_gcd : mg "gcd" = some (.ref e.f_gcd)
  F_common : Fun K "common" "common" s_common e.f_common e.d_common
  b_common : Binds K e.d_common ["numbers"] []
  g_common : mg "common" = some (.ref e.f_common)
  F_primitive : Fun K "primitive" "primitive" s_primitive e.f_primitive e.d_primitive
  b_primitive : Binds K e.d_primitive ["row"] []
  g_primitive : mg "primitive" = some (.ref e.f_primitive)
  F_cleared : Fun K "cleared" "cleared" s_cleared e.f_cleared e.d_cleared
  b_cleared : Binds K e.d_cleared ["row", "head", "place"] []
  g_cleared : mg "cleared" = some (.ref e.f_cleared)
  F_echelon : Fun K "echelon" "echelon" s_echelon e.f_echelon e.d_echelon
  b_echelon : Binds K e.d_echelon ["rows", "width"] []
  g_echelon : mg "echelon" = some (.ref e.f_echelon)
  F_null_rows : Fun K "null_rows" "null_rows" s_null_rows e.f_null_rows e.d_null_rows
  b_null_rows : Binds K e.d_null_rows ["rows", "width"] []
  g_null_rows : mg "null_rows" = some (.ref e.f_null_rows)
  F__law_is_integer : Fun K "_law_is_integer" "_law_is_integer" s__law_is_integer e.f__law_is_integer e.d__law_is_integer
  b__law_is_integer : Binds K e.d__law_is_integer ["_law_thing"] []
  g__law_is_integer : mg "_law_is_integer" = some (.ref e.f__law_is_integer)
  F__law_common : Fun K "_law_common" "_law_common" s__law_common e.f__law_common e.d__law_common
  b__law_common : Binds K e.d__law_common ["_law_numbers"] []
  g__law_common : mg "_law_common" = some (.ref e.f__law_common)
  F__law_lowered : Fun K "_law_lowered" "_law_lowered" s__law_lowered e.f__law_lowered e.d__law_lowered
  b__law_lowered : Binds K e.d__law_lowered ["_law_row_here", "_law_basis_here"] []
  g__law_lowered : mg "_law_lowered" = some (.ref e.f__law_lowered)
  F__law_basis : Fun K "_law_basis" "_law_basis" s__law_basis e.f__law_basis e.d__law_basis
  b__law_basis : Binds K e.d__law_basis ["_law_rows"] []
  g__law_basis : mg "_law_basis" = some (.ref e.f__law_basis)
  F__law_depends : Fun K "_law_depends" "_law_depends" s__law_depends e.f__law_depends e.d__law_depends
  b__law_depends : Binds K e.d__law_depends ["_law_row_here", "_law_rows"] []
  g__law_depends : mg "_law_depends" = some (.ref e.f__law_depends)
  F__law_integer : Fun K "_law_integer" "_law_integer" s__law_integer e.f__law_integer e.d__law_integer
  b__law_integer : Binds K e.d__law_integer ["_law_src"] []
  g__law_integer : mg "_law_integer" = some (.ref e.f__law_integer)
  F__law_row : Fun K "_law_row" "_law_row" s__law_row e.f__law_row e.d__law_row
  b__law_row : Binds K e.d__law_row ["_law_src", "_law_rows", "_law_width"] []
  g__law_row : mg "_law_row" = some (.ref e.f__law_row)
  n_int : mg "int" = none
  n_len : mg "len" = none
  n_list : mg "list" = none
  n_range : mg "range" = none
  n_repr : mg "repr" = none
  n_all : mg "all" = none
  n_any : mg "any" = none
  n_tuple : mg "tuple" = none
  n_max : mg "max" = none
  n_sum : mg "sum" = none
  n_isinstance : mg "isinstance" = none
  n_abs : mg "abs" = none
  n_zip : mg "zip" = none
  n_enumerate : mg "enumerate" = none
  n_bool : mg "bool" = none
/-! ### one step of a reading -/
local macro_rules | `(tactic| walk_at "r1") => `(tactic| with_reducible first
  | refine r_seq ?_ | refine r_asg ?_ | refine r_name ?_
  | refine r_c ?_ | refine r_op ?_ | refine r_un ?_ | refine r_I0 ?_ | refine r_U ?_
  | refine r_ifS ?_ | refine r_if ?_ | refine r_test ?_ | refine r_B ?_
  | refine r_and ?_ | refine r_or ?_ | refine r_not ?_ | refine r_bl ?_ | refine r_ret ?_
  | refine r_drop ?_ | refine r_nil ?_ | refine r_cons ?_ | refine r_CB ?_ | refine r_call ?_
  | refine r_int ?_ | refine r_tup ?_ | refine r_lst ?_ | refine r_andV ?_ | refine r_chain ?_
  | refine r_sub ?_ | refine r_next ?_ | refine r_for ?_ | refine r_lc ?_ | refine r_iList ?_
  | refine r_iTup ?_ | refine r_iStr ?_ | refine r_its ?_ | refine r_rng1 ?_ | refine r_zip ?_
  | refine r_enum ?_ | refine r_sl ?_ | refine r_part ?_ | refine r_prt ?_ | refine r_nopart ?_
  | refine r_yes ?_ | refine r_M1 ?_ | refine r_M0 ?_ | refine r_isS ?_ | refine r_BM ?_ | refine r_BM0 ?_
  | refine r_fld ?_ | refine r_sfld ?_ | refine r_meth ?_ | refine r_make ?_ | refine r_din ?_ | refine r_dnin ?_ | refine r_dget ?_
  | refine r_dput ?_ | refine r_gcons ?_ | refine r_gnil ?_ | refine r_iVals ?_ | refine r_iItems ?_ | refine r_iKeys ?_ | refine r_par ?_ | refine r_pr ?_ | refine r_min2 ?_ | refine r_dsetd ?_)
local macro_rules | `(tactic| walk_at "rv") => `(tactic| ((with_reducible refine' r_var ?hv ?_); (case hv => rfl)))
local macro_rules | `(tactic| walk_at "sq") => `(tactic| first
  | assumption | exact SqL.of (by assumption) | exact SqT.of (by assumption) | exact SqL.of upd_same | exact SqT.of upd_same
  | ((refine' sq_upd ?hn ?hh); (case hn => assumption); (case hh => walk_at "sq"))
  | ((refine' sqT_upd ?hn ?hh); (case hn => assumption); (case hh => walk_at "sq")))
local macro_rules | `(tactic| walk_at "ne") => `(tactic| first
  | assumption | exact Ne.symm (by assumption) | exact ne_of_none (by assumption) (by assumption) | exact (ne_of_none (by assumption) (by assumption)).symm)
local macro_rules | `(tactic| walk_at "hp") => `(tactic| first
  | assumption | exact upd_same
  | ((refine' at_upd ?hn ?hh); (case hn => assumption); (case hh => walk_at "hp"))
  | ((refine' at_ne ?hn ?hh); (case hn => walk_at "ne"); (case hh => walk_at "hp")))
local macro_rules | `(tactic| walk_at "rx") => `(tactic| first
  | ((with_reducible refine' r_listD ?hs ?_); (case hs => walk_at "hp"))
  | ((with_reducible refine' r_lenD ?hs ?_); (case hs => walk_at "hp"))
  | ((with_reducible refine' r_lockE ?hs ?hm ?_); (case hs => walk_at "hp"); (case hm => exact True.intro))
  | ((with_reducible refine' r_ixL ?hs ?he ?_); (case hs => walk_at "sq"); (case he => first | rfl | exact atI_nat (by assumption) | exact atI_eq (by assumption) (by omega)))
  | ((with_reducible refine' r_ixT ?hs ?he ?_); (case hs => walk_at "sq"); (case he => first | rfl | exact atI_nat (by assumption) | exact atI_eq (by assumption) (by omega)))
  | ((with_reducible refine' r_setL ?hs ?he ?_); (case hs => first | assumption | exact upd_same); (case he => first | rfl | exact atI_nat (by assumption) | exact atI_eq (by assumption) (by omega)))
  | ((with_reducible refine' r_slL ?hs ?_); (case hs => walk_at "sq"))
  | ((with_reducible refine' r_itl ?hs ?_); (case hs => walk_at "sq"))
  | ((with_reducible refine' r_itt ?hs ?_); (case hs => walk_at "sq"))
  | ((with_reducible refine r_rg1 ?hs ?_); (case hs => constructor <;> omega))
  | ((with_reducible refine r_I ?hs ?_); (case hs => first | assumption | (show (0 : Int) < _; omega) | exact Or.inr ⟨by decide, by decide⟩ | exact Or.inl ⟨by decide, by decide⟩ | (refine Or.inl ⟨?_, ?_⟩ <;> omega) | exact ⟨by decide, by decide⟩ | exact ⟨by decide, by decide, by decide⟩))
  | ((with_reducible refine' r_list_of ?hs ?_); (case hs => walk_at "sq"))
  | ((with_reducible refine' r_list_ofT ?hs ?_); (case hs => walk_at "sq"))
  | ((with_reducible refine' r_lenQ ?hs ?_); (case hs => walk_at "sq"))
  | ((with_reducible refine' r_lenQT ?hs ?_); (case hs => walk_at "sq"))
  | ((with_reducible refine' r_listOf ?hs ?_); (case hs => walk_at "sq"))
  | ((with_reducible refine' r_listOfT ?hs ?_); (case hs => walk_at "sq"))
  | ((with_reducible refine' r_tupOfT ?hs ?_); (case hs => walk_at "sq"))
  | ((with_reducible refine' r_tupOfL ?hs ?_); (case hs => walk_at "sq"))
  | ((with_reducible refine' r_ixsL ?hs ?he ?_); (case hs => walk_at "sq"); (case he => first | rfl | exact atI_nat (by assumption) | exact atI_eq (by assumption) (by omega)))
  | ((with_reducible refine' r_ixsT ?hs ?he ?_); (case hs => walk_at "sq"); (case he => first | rfl | exact atI_nat (by assumption) | exact atI_eq (by assumption) (by omega)))
  | ((with_reducible refine' r_in ?hs ?hx ?ha ?_); (case hs => walk_at "sq"); (case hx => rfl); (case ha => first | assumption | exact flat_strs _))
  | ((with_reducible refine' r_inT ?hs ?hx ?ha ?_); (case hs => walk_at "sq"); (case hx => rfl); (case ha => first | assumption | exact flat_strs _))
  | ((with_reducible refine' r_app ?hs ?hz ?_); (case hs => walk_at "hp"); (case hz => first | assumption | omega | (simp only [List.length_map, List.length_append, List.length_cons, List.length_nil]; omega)))
  | ((with_reducible refine' r_insert ?hs ?hz ?h0 ?_); (case hs => walk_at "hp"); (case hz => first | assumption | omega); (case h0 => constructor <;> omega))
  | ((with_reducible refine r_size ?hs ?_); (case hs => first | (simp only [List.length_cons, List.length_nil]; omega) | decide))
  | ((with_reducible refine' r_tyL ?hs ?_); (case hs => walk_at "sq"))
  | ((with_reducible refine r_addS ?hs ?_); (case hs => first | assumption | omega | (simp only [strLen_append]; omega)))
  | ((with_reducible refine r_lenS ?hs ?_); (case hs => first | assumption | omega | (simp only [strLen_append]; omega)))
  | ((with_reducible refine' r_slS ?hs ?_); (case hs => first | assumption | (refine Nat.le_trans ?_ (by decide : 1000000 ≤ sizeLine); omega)))
  | ((with_reducible refine' r_fldA ?ho ?hc ?hn ?hl ?_); (case ho => walk_at "hp"); (case hc => assumption); (case hn => assumption); (case hl => first | assumption | exact fl_entries _ _ | exact fl_grouped _ _))
  | ((with_reducible refine' r_sfldA ?ho ?hc ?hn ?hl ?_); (case ho => walk_at "hp"); (case hc => assumption); (case hn => assumption); (case hl => first | decide | exact (show (1:Nat) < 1000 by decide) | exact (show (2:Nat) < 1000 by decide) | exact (show (3:Nat) < 1000 by decide) | exact (show (4:Nat) < 1000 by decide)))
  | ((with_reducible refine' r_methA ?ho ?hl ?_); (case ho => walk_at "hp"); (case hl => first | assumption | exact fl_no _ _ (by decide +kernel) (by decide +kernel) | rfl))
  | ((with_reducible refine' r_inK ?hs ?_); (case hs => walk_at "hp"))
  | ((with_reducible refine' r_getK ?hs ?hv ?_); (case hs => walk_at "hp"); (case hv => assumption))
  | ((with_reducible refine' r_gtup ?hs ?hl ?_); (case hs => walk_at "sq"); (case hl => rfl))
  | ((with_reducible refine' r_isD ?hs ?_); (case hs => walk_at "hp"))
  | ((with_reducible refine' r_putK ?hs ?hl ?_); (case hs => walk_at "hp"); (case hl => first | assumption | omega | (simp only [List.length_map]; omega)))
  | ((with_reducible refine' r_dwalk ?hs ?_); (case hs => walk_at "hp"))
  | ((with_reducible refine r_eq ?hs ?_); (case hs => rfl))
  | ((with_reducible refine r_ne ?hs ?_); (case hs => rfl)))
local macro_rules | `(tactic| walk_at "rd") => `(tactic| repeat' (first | walk_at "r1" | walk_at "rv" | walk_at "rx"))

/-! ### the law's own source of drawn numbers -/
section
variable {P : Program} {w : World} {K : PySem.W.Frag} {mg : Str → Option Value} {base : Heap} {e : Env}
def spSource (K : PySem.W.Frag) : Sp := fun vs H Q _ => ∃ (a : Addr) (ns : List Int),
  vs = [.ref a] ∧ SqL K H a (ns.map V.int) ∧ ∀ p la H', H p = none → Same H H' → Src H' p la → Q (.ref p) H'
def spDraw : Sp := fun vs H Q _ => ∃ (a la : Addr) (m : Int), vs = [.ref a, .int m] ∧ 0 < m ∧
  m < 2 ^ 200 ∧ Src H a la ∧ ∀ j H', 0 ≤ j → j < m → Src H' a la → But a H H' → Q (.int j) H'
theorem sc__law_source : FnScope ["_law_script", "_law_start", "_law_cell"] ["_law_script"] (defScope s__law_source) :=
  ⟨rfl, rfl, rfl, by decide +kernel, rfl, by decide +kernel, by decide +kernel⟩
theorem sc__law_draw : FnScope ["_law_src", "_law_many", "_law_cell", "_law_digit", "_law_base9", "_law_later9"] ["_law_src", "_law_many"] (defScope s__law_draw) :=
  ⟨rfl, rfl, rfl, by decide +kernel, rfl, by decide +kernel, by decide +kernel⟩
theorem cut_ints (ns : List Int) (lo hi : Option Int) : ∃ ms : List Int, cutV (ns.map V.int) lo hi = ms.map V.int := by
  refine ⟨(ns.drop (HT.sIx ns.length 0 lo)).take (HT.sIx ns.length ns.length hi - HT.sIx ns.length 0 lo), ?_⟩
  unfold cutV
  rw [List.length_map, List.map_take, List.map_drop]
theorem len1 {vs : List V} {x : V} (h : vs = [x]) : vs.length = 1 := by rw [h]; rfl
theorem len2 {vs : List V} {x y : V} (h : vs = [x, y]) : vs.length = 2 := by rw [h]; rfl

theorem ok__law_source (T : Txt K mg e) : FnG P w K mg base CX0 1 e.f__law_source e.d__law_source ["_law_script"] (spSource K) := by
  refine okG T.F__law_source sc__law_source (fun vs H Q E h => ?_) (fun cdv A outer s H vs Q E hG hr h => ?_)
  · obtain ⟨a, ns, rfl, _⟩ := h
    rfl
  · obtain ⟨a, ns, rfl, hS, k⟩ := h
    refine ⟨_, (pss_cons (ps_set (i := 1) sc__law_source.nd rfl (by first | exact Or.inl rfl | exact Or.inr rfl) pe_int)
  (pss_cons (ps_for PassesOwn.never rfl (pi_listK (K := K) rfl (pe_slice (sl_listK (K := K) rfl) (pv 0) po_none (po_some pe_int))) (pg_name (i := 2) sc__law_source.nd rfl (by first | exact Or.inl rfl | exact Or.inr rfl))
    (pss_one (ps_set (i := 1) sc__law_source.nd rfl (by first | exact Or.inl rfl | exact Or.inr rfl) (pe_op op_mod (pe_callTy call_int1 (by rfl) T.n_int (by decide +kernel) (pa_cons (pe_op op_add (pe_op op_add (pe_op op_mul (pv 1) pe_int) (pe_op op_mod (pe_callTy call_int1 (by rfl) T.n_int (by decide +kernel) (pa_cons (pv 2) pa_nil)) pe_int)) pe_int) pa_nil)) pe_int))))
  (pss_one (ps_ret (pe_lst (pa_cons (pe_callTy (call_listK (K := K) rfl) (by rfl) T.n_list (by decide +kernel) (pa_cons (pe_slice (sl_listK (K := K) rfl) (pv 0) po_none (po_some pe_int)) pa_nil)) (pa_cons pe_int (pa_cons pe_int (pa_cons (pv 1) (pa_cons pe_int pa_nil)))))))))), ?_⟩
    try dsimp only [cxOf, Cx.nox, Cx.wish]
    walk_at "rd"
    intro p np
    walk_at "rd"
    refine for_L (cutV (ns.map V.int) none (some 63)) (fun i σ H2 => ∃ (c : Option V) (n : Int),
      σ = [some (.ref a), some (.int n), c] ∧ H2 = upd H p (.lst (cutV (ns.map V.int) none (some 63))) ∧ 0 ≤ n ∧
        n < 2147483629) ⟨none, 9480, rfl, rfl, by decide, by decide⟩ ?_ ?_ ?_
    · rintro i σ H2 hi ⟨c, n, rfl, rfl, _⟩
      exact SqL.of upd_same
    · rintro i x σ H2 hx ⟨c, n, rfl, rfl, h1, h2⟩
      have hm : x ∈ ns.map V.int := List.mem_of_mem_drop (List.mem_of_mem_take (List.mem_of_getElem? hx))
      obtain ⟨z, _, rfl⟩ := List.mem_map.mp hm
      walk_at "rd"
      exact ⟨_, _, rfl, rfl, Int.emod_nonneg _ (by decide), Int.emod_lt_of_pos _ (by decide)⟩
    · rintro σ H2 ⟨c, n, rfl, rfl, h1, h2⟩
      walk_at "rd"
      intro q nq
      walk_at "rd"
      intro l nl
      walk_at "rd"
      intro r nr
      have s3 : Same H _ := ((Same.new (o := HO.lst (cutV (ns.map V.int) none (some 63))) np).trans
        (Same.new (o := HO.lst (cutV (ns.map V.int) none (some 63))) nq)).trans
        (Same.new (o := HO.lst (cutV (ns.map V.int) none (some 63))) nl)
      obtain ⟨ms, em⟩ := cut_ints ns none (some 63)
      refine k r l _ (s3.free nr) (s3.trans (Same.new nr)) ⟨?_, ms, 0, 0, n, 0, upd_same, ?_, by simp, by omega, h1, h2⟩
      · rintro rfl
        rw [upd_same] at nr
        cases nr
      · rw [← em]
        exact at_upd nr upd_same

theorem okh__law_draw (T : Txt K mg e) : FnG P w K mg base CX0 1 e.f__law_draw e.d__law_draw ["_law_src", "_law_many"] spDraw := by
  refine okG T.F__law_draw sc__law_draw (fun vs H Q E h => ?_) (fun cdv A outer s H vs Q E hG hr h => ?_)
  · obtain ⟨a, la, m, rfl, _⟩ := h
    rfl
  · obtain ⟨a, la, m, rfl, m0, m1, hS, k⟩ := h
    refine ⟨_, (Evl.pss_cut (ps_if (PW.pt (pw_and (pt_cmpR op_lt (pe_ix (ix_listK (K := K) rfl) (pv 0) pe_int (fun _ _ => rfl)) (pv 1) (nomark _)) (pw_and1 (pt_cmpR op_lt (pe_ix (ix_listK (K := K) rfl) (pv 0) pe_int (fun _ _ => rfl)) (pe_callB (call_lenQ (K := K) rfl) (by rfl) T.n_len (by decide +kernel) (pa_cons (pe_ix (ix_listK (K := K) rfl) (pv 0) pe_int (fun _ _ => rfl)) pa_nil)) (nomark _)))))
    (pss_cons (ps_set (i := 2) sc__law_draw.nd rfl (by first | exact Or.inl rfl | exact Or.inr rfl) (pe_ix (ix_listK (K := K) rfl) (pe_ix (ix_listK (K := K) rfl) (pv 0) pe_int (fun _ _ => rfl)) (pe_ix (ix_listK (K := K) rfl) (pv 0) pe_int (fun _ _ => rfl)) (fun _ _ => rfl)))
      (pss_cons (ps_asg (pe_op op_add (pe_ix (ix_listK (K := K) rfl) (pv 0) pe_int (fun _ _ => rfl)) pe_int) (pg_sub (pv 0) pe_int set_list))
      (pss_cons (ps_asg (pe_op op_mod (pe_callTy call_int1 (by rfl) T.n_int (by decide +kernel) (pa_cons (pe_op op_add (pe_op op_add (pe_op op_mul (pe_ix (ix_listK (K := K) rfl) (pv 0) pe_int (fun _ _ => rfl)) pe_int) (pe_op op_mod (pe_callTy call_int1 (by rfl) T.n_int (by decide +kernel) (pa_cons (pv 2) pa_nil)) pe_int)) pe_int) pa_nil)) pe_int) (pg_sub (pv 0) pe_int set_list))
      (pss_one (ps_asg (pe_ifExp (pt_cmpR op_ge (pv 2) (pe_op op_pow pe_int pe_int) (nomark _)) (pv 2) pe_int) (pg_sub (pv 0) pe_int set_list))))))
    pss_nil)
  (pss_cons (ps_if (pt_cmpR op_ge (pe_ix (ix_listK (K := K) rfl) (pv 0) pe_int (fun _ _ => rfl)) (pv 1) (nomark _))
    (pss_cons (ps_set (i := 3) sc__law_draw.nd rfl (by first | exact Or.inl rfl | exact Or.inr rfl) (pe_op op_mod (pe_callTy call_int1 (by rfl) T.n_int (by decide +kernel) (pa_cons (pe_ix (ix_listK (K := K) rfl) (pv 0) pe_int (fun _ _ => rfl)) pa_nil)) (pv 1)))
      (pss_cons (ps_asg (pe_op op_fdivW (pe_ix (ix_listK (K := K) rfl) (pv 0) pe_int (fun _ _ => rfl)) (pv 1)) (pg_sub (pv 0) pe_int set_list))
      (pss_one (ps_ret (pv 3)))))
    pss_nil)
  (pss_cons (ps_asg (pe_op op_add (pe_ix (ix_listK (K := K) rfl) (pv 0) pe_int (fun _ _ => rfl)) pe_int) (pg_sub (pv 0) pe_int set_list))
  (pss_cons (ps_set (i := 4) sc__law_draw.nd rfl (by first | exact Or.inl rfl | exact Or.inr rfl) (pe_op op_mod (pe_callTy call_int1 (by rfl) T.n_int (by decide +kernel) (pa_cons (pe_op op_add (pe_ix (ix_listK (K := K) rfl) (pv 0) pe_int (fun _ _ => rfl)) (pe_op op_mul (pe_ix (ix_listK (K := K) rfl) (pv 0) pe_int (fun _ _ => rfl)) pe_int)) pa_nil)) pe_int))
  (pss_cons (ps_set (i := 5) sc__law_draw.nd rfl (by first | exact Or.inl rfl | exact Or.inr rfl) (pe_op op_mul (pe_op op_mod (pe_callTy call_int1 (by rfl) T.n_int (by decide +kernel) (pa_cons (pe_op op_mul (pv 4) (pv 4)) pa_nil)) pe_int) (pe_op op_add (pe_op op_mod (pe_callTy call_int1 (by rfl) T.n_int (by decide +kernel) (pa_cons (pv 4) pa_nil)) pe_int) pe_int)))
  (pss_cons (ps_asg (pe_op op_mod (pe_callTy call_int1 (by rfl) T.n_int (by decide +kernel) (pa_cons (pe_op op_add (pe_op op_add (pv 5) (pe_op op_mul pe_int (pv 4))) pe_int) pa_nil)) pe_int) (pg_sub (pv 0) pe_int set_list))
  (pss_one (ps_ret (pe_op op_mod (pe_callTy call_int1 (by rfl) T.n_int (by decide +kernel) (pa_cons (pe_op op_add (pe_op op_fdivW (pe_ix (ix_listK (K := K) rfl) (pv 0) pe_int (fun _ _ => rfl)) pe_int) (pe_op op_mul (pe_op op_mod (pe_callTy call_int1 (by rfl) T.n_int (by decide +kernel) (pa_cons (pe_ix (ix_listK (K := K) rfl) (pv 0) pe_int (fun _ _ => rfl)) pa_nil)) pe_int) pe_int)) pa_nil)) (pv 1)))))))))), ?_⟩
    try dsimp only [cxOf, Cx.nox, Cx.wish]
    refine r_cut (fun σ H1 => ∃ c, σ = [some (.ref a), some (.int m), c, none, none, none] ∧ Src H1 a la ∧ But a H H1) ?_ ?_
    · obtain ⟨ne, ns, pos, rest, st, n, h1, h2, hp, r0, s0, s1⟩ := hS
      walk_at "rd"
      have skip : ∃ c, start ["_law_src", "_law_many", "_law_cell", "_law_digit", "_law_base9", "_law_later9"] [.ref a, .int m] = [some (.ref a), some (.int m), c, none, none, none] ∧
          Src H a la ∧ But a H H := ⟨none, rfl, ⟨ne, ns, pos, rest, st, n, h1, h2, hp, r0, s0, s1⟩, But.refl a H⟩
      refine ite_b (fun hc => ?_) (fun hc => ite_f rfl skip)
      walk_at "rd"
      refine ite_b (fun hd => ?_) (fun hd => skip)
      have hpos : pos < ns.length := by simpa using hd
      obtain ⟨cell, hcell⟩ : ∃ cell : Int, (ns.map V.int)[pos]? = some (.int cell) := ⟨ns[pos], by simp [hpos]⟩
      have h2' : ∀ o, (upd H a o) la = some (.lst (ns.map V.int)) := fun o => at_ne ne h2
      walk_at "rd"
      have fin : ∀ r : Int, 0 ≤ r → (fun σ H1 => ∃ c, σ = [some (V.ref a), some (V.int m), c, none, none, none] ∧ Src H1 a la ∧ But a H H1)
          [some (V.ref a), some (V.int m), some (V.int cell), none, none, none]
          (upd (upd (upd H a (.lst [.ref la, .int (pos + 1), .int rest, .int st, .int n])) a (.lst [.ref la, .int (pos + 1), .int rest,
            .int ((st * 48281 + cell % 2147483549 + 17) % 2147483587), .int n])) a (.lst [.ref la, .int (pos + 1), .int r,
            .int ((st * 48281 + cell % 2147483549 + 17) % 2147483587), .int n])) := fun r hr => by
        refine ⟨_, rfl, ⟨ne, ns, pos + 1, r, _, n, upd_same, at_ne ne (at_ne ne (at_ne ne h2)), hpos, hr, Int.emod_nonneg _ (by decide), ?_⟩, ((But.refl a H).upd.upd).upd⟩
        have := Int.emod_lt_of_pos (st * 48281 + cell % 2147483549 + 17) (show (0 : Int) < 2147483587 by decide)
        omega
      refine ite_b (fun he => ?_) (fun he => ?_)
      · walk_at "rd"
        exact fin cell (by have := of_decide_eq_true he; have e18 : (10 : Int) ^ (18 : Int).toNat = 1000000000000000000 := by decide +kernel
                           omega)
      · walk_at "rd"
        exact fin 0 (by decide)
    · rintro σ H1 ⟨c, rfl, ⟨ne, ns, pos, rest, st, n, h1, h2, hp, r0, s0, s1⟩, hB⟩
      have hW : CDivW rest m := wide_div (b := 200) m0 (by omega) (by decide) (by decide)
      have hW2 : ∀ z : Int, CDivW z 67 := fun z => wide_div (b := 10) (by decide) (by decide) (by decide) (by decide)
      have e1 := fun z => Int.emod_nonneg z (show m ≠ 0 by omega)
      have e2 := fun z => Int.emod_lt_of_pos z m0
      walk_at "rd"
      refine ite_b (fun hc => ?_) (fun hc => ?_)
      · walk_at "rd"
        refine k _ _ (e1 _) (e2 _) ⟨ne, ns, pos, rest / m, st, n, upd_same, at_ne ne h2, hp, Int.ediv_nonneg r0 (by omega), s0, s1⟩ hB.upd
      · walk_at "rd"
        refine k _ _ (e1 _) (e2 _) ⟨ne, ns, pos, rest, _, n + 1, upd_same, at_ne ne (at_ne ne h2), hp, r0, Int.emod_nonneg _ (by decide), ?_⟩ hB.upd.upd
        refine Int.lt_trans (Int.emod_lt_of_pos _ (by decide)) (by decide)

/-- .. over data -/
theorem ok__law_draw (T : Txt K mg e) : FnG P w K mg base CX0 1 e.f__law_draw e.d__law_draw ["_law_src", "_law_many"] (spD tDraw) :=
  (okh__law_draw T).toD fun vs H Q E ⟨ds, h, Q2, a, r, ⟨p, la, m, ed, e1, m0, m1, q⟩, po⟩ => by
    subst ed
    cases a with
    | cons d1 d2 =>
      cases d2 with
      | cons d2 d3 =>
        cases d3
        cases d1
        cases d2
        refine ⟨p, la, m, rfl, m0, m1, r.cell p _ e1, fun j H' j0 j1 s b => ?_⟩
        have f := fz_but e1 b
        exact po _ h _ H' (q j j0 j1) (.int j) (relH_but r e1 b s) (by show Same _ _; rw [f]; exact Same.refl _)
end

end Toy

set_option Elab.async false
set_option linter.all false
set_option maxRecDepth 100000
set_option maxHeartbeats 4000000
/-! ### rows of integers: the elimination, twice -/
namespace GX
abbrev IL := List Int
def at0 (l : IL) (i : Nat) : Int := l.getD i 0
def cmF (g : Nat) (l : IL) : Nat := l.foldl (fun g x => Nat.gcd g x.natAbs) g
abbrev cm (l : IL) : Nat := cmF 0 l
theorem cmF_cons (g : Nat) (x : Int) (l : IL) : cmF g (x :: l) = cmF (Nat.gcd g x.natAbs) l := rfl
theorem cmF_dvd0 : ∀ (l : IL) (g : Nat), cmF g l ∣ g
  | [], g => Nat.dvd_refl g
  | x :: l, g => Nat.dvd_trans (cmF_dvd0 l _) (Nat.gcd_dvd_left _ _)
theorem cmF_dvd : ∀ (l : IL) (g : Nat), ∀ x ∈ l, (cmF g l : Int) ∣ x
  | [], _, _, h => by cases h
  | y :: l, g, x, h => by
    rcases List.mem_cons.mp h with rfl | h
    · have := Nat.dvd_trans (cmF_dvd0 l (Nat.gcd g x.natAbs)) (Nat.gcd_dvd_right g x.natAbs)
      exact Int.ofNat_dvd_left.mpr this
    · exact cmF_dvd l _ x h
theorem cm_dvd {l : IL} {x : Int} (h : x ∈ l) : (cm l : Int) ∣ x := cmF_dvd l 0 x h
theorem cmF_great {d : Nat} : ∀ (l : IL) (g : Nat), d ∣ g → (∀ x ∈ l, (d : Int) ∣ x) → d ∣ cmF g l
  | [], _, h, _ => h
  | x :: l, g, h, k => cmF_great l _ (Nat.dvd_gcd h (Int.ofNat_dvd_left.mp (k x (List.mem_cons_self ..)))) fun y hy => k y (List.mem_cons_of_mem _ hy)
theorem cm_great {d : Nat} {l : IL} (h : ∀ x ∈ l, (d : Int) ∣ x) : d ∣ cm l := cmF_great l 0 (Nat.dvd_zero d) h
theorem cm_pos {l : IL} {x : Int} (h : x ∈ l) (n : x ≠ 0) : 0 < cm l := by
  rcases Nat.eq_zero_or_pos (cm l) with q | q
  · have := cm_dvd h
    rw [q] at this
    exact absurd (Int.zero_dvd.mp this) n
  · exact q
theorem cm_zero {l : IL} (h : ∀ x ∈ l, x = 0) : cm l = 0 := by
  have : ∀ (l : IL), (∀ x ∈ l, x = 0) → cmF 0 l = 0 := by
    intro l
    induction l with
    | nil => intro _; rfl
    | cons x l ih =>
      intro h
      rw [cmF_cons, h x (List.mem_cons_self ..)]
      exact ih fun y hy => h y (List.mem_cons_of_mem _ hy)
  exact this l h
def divL (d : Int) (l : IL) : IL := l.map fun x => x.fdiv d
theorem divL_len (d : Int) (l : IL) : (divL d l).length = l.length := by unfold divL; rw [List.length_map]
theorem fdiv_mul {d x : Int} (h : d ∣ x) (n : d ≠ 0) : d * x.fdiv d = x := by
  obtain ⟨k, rfl⟩ := h
  rw [Int.mul_fdiv_cancel_left _ n]
theorem at_div {d : Int} {l : IL} (h : ∀ x ∈ l, d ∣ x) (n : d ≠ 0) (i : Nat) : d * at0 (divL d l) i = at0 l i := by
  unfold at0 divL
  rw [List.getD_eq_getElem?_getD, List.getD_eq_getElem?_getD, List.getElem?_map]
  cases e : l[i]? with
  | none => simp
  | some x => exact fdiv_mul (h x (List.mem_of_getElem? e)) n
def comb (s t : Int) (u v : IL) : IL := List.zipWith (fun a b => s * a - t * b) u v
def combA (s t : Int) (u v : IL) : IL := List.zipWith (fun a b => s * a + t * b) u v
theorem at_zip {f : Int → Int → Int} (h0 : f 0 0 = 0) {u v : IL} (hl : u.length = v.length) (i : Nat) : at0 (List.zipWith f u v) i = f (at0 u i) (at0 v i) := by
  unfold at0
  rw [List.getD_eq_getElem?_getD, List.getD_eq_getElem?_getD, List.getD_eq_getElem?_getD, List.getElem?_zipWith]
  by_cases hi : i < u.length
  · rw [List.getElem?_eq_getElem hi, List.getElem?_eq_getElem (show i < v.length by omega)]
    rfl
  · rw [List.getElem?_eq_none (by omega), List.getElem?_eq_none (show v.length ≤ i by omega)]
    simp [h0]
theorem at_comb {s t : Int} {u v : IL} (hl : u.length = v.length) (i : Nat) : at0 (comb s t u v) i = s * at0 u i - t * at0 v i := at_zip (by simp) hl i
theorem at_combA {s t : Int} {u v : IL} (hl : u.length = v.length) (i : Nat) : at0 (combA s t u v) i = s * at0 u i + t * at0 v i := at_zip (by simp) hl i
theorem comb_len {s t : Int} {u v : IL} (hl : u.length = v.length) : (comb s t u v).length = u.length := by unfold comb; rw [List.length_zipWith]; omega
theorem combA_len {s t : Int} {u v : IL} (hl : u.length = v.length) : (combA s t u v).length = u.length := by unfold combA; rw [List.length_zipWith]; omega
/-! ### rows that are multiples of each other -/
structure Pr (u v : IL) : Prop where
  len : u.length = v.length
  ex : ∃ a b : Int, a ≠ 0 ∧ b ≠ 0 ∧ ∀ i, a * at0 u i = b * at0 v i
theorem Pr.refl (u : IL) : Pr u u := ⟨rfl, 1, 1, by decide, by decide, fun _ => rfl⟩
theorem Pr.zero {u v : IL} (p : Pr u v) (i : Nat) : at0 u i = 0 ↔ at0 v i = 0 := by
  obtain ⟨a, b, ha, hb, h⟩ := p.ex
  have := h i
  constructor
  · intro e
    rw [e, Int.mul_zero] at this
    exact (Int.mul_eq_zero.mp this.symm).resolve_left hb
  · intro e
    rw [e, Int.mul_zero] at this
    exact (Int.mul_eq_zero.mp this).resolve_left ha
theorem Pr.div {u v : IL} {d e : Int} (p : Pr u v) (hd : d ≠ 0) (he : e ≠ 0) (du : ∀ x ∈ u, d ∣ x) (dv : ∀ x ∈ v, e ∣ x) : Pr (divL d u) (divL e v) := by
  obtain ⟨a, b, ha, hb, h⟩ := p.ex
  refine ⟨by rw [divL_len, divL_len]; exact p.len, a * d, b * e, Int.mul_ne_zero ha hd, Int.mul_ne_zero hb he, fun i => ?_⟩
  rw [Int.mul_assoc, at_div du hd, Int.mul_assoc, at_div dv he, h]
theorem Pr.step {u v r s : IL} {p : Nat} (x : Pr u v) (y : Pr r s) (hl : u.length = r.length) : Pr (comb (at0 r p) (at0 u p) u r) (comb (at0 s p) (at0 v p) v s) := by
  obtain ⟨a, b, ha, hb, h⟩ := x.ex
  obtain ⟨c, d, hc, hd, k⟩ := y.ex
  have hl2 : v.length = s.length := by rw [← x.len, hl, y.len]
  refine ⟨by rw [comb_len hl, comb_len hl2]; exact x.len, a * c, b * d, Int.mul_ne_zero ha hc, Int.mul_ne_zero hb hd, fun i => ?_⟩
  rw [at_comb hl, at_comb hl2, Int.mul_sub, Int.mul_sub]
  have e1 : a * c * (at0 r p * at0 u i) = (c * at0 r p) * (a * at0 u i) := by ac_rfl
  have e2 : a * c * (at0 u p * at0 r i) = (a * at0 u p) * (c * at0 r i) := by ac_rfl
  rw [e1, e2, h, h, k, k]
  congr 1
  · ac_rfl
  · ac_rfl
/-! ### sizes -/
def Bits (b : Nat) (l : IL) : Prop := ∀ x ∈ l, x.natAbs < 2 ^ b
theorem Bits.up {b c : Nat} {l : IL} (h : Bits b l) (k : b ≤ c) : Bits c l := fun x hx => Nat.lt_of_lt_of_le (h x hx) (Nat.pow_le_pow_right (by decide) k)
theorem bits_comb {x y : Nat} {s t a b : Int} (hs : s.natAbs < 2 ^ y) (ht : t.natAbs < 2 ^ x) (ha : a.natAbs < 2 ^ x) (hb : b.natAbs < 2 ^ y) : (s * a).natAbs + (t * b).natAbs < 2 ^ (x + y + 1) := by
  have h1 : (s * a).natAbs ≤ 2 ^ y * 2 ^ x - 0 := by rw [Int.natAbs_mul]; exact Nat.mul_le_mul (Nat.le_of_lt hs) (Nat.le_of_lt ha)
  have h2 : (t * b).natAbs < 2 ^ x * 2 ^ y := by
    rw [Int.natAbs_mul]
    exact Nat.mul_lt_mul_of_lt_of_le ht (Nat.le_of_lt hb) (Nat.pow_pos (by decide))
  have e : 2 ^ (x + y + 1) = 2 ^ x * 2 ^ y + 2 ^ x * 2 ^ y := by rw [Nat.pow_succ, Nat.pow_add]; omega
  rw [e, Nat.mul_comm (2 ^ y)] at *
  omega
theorem natAbs_fdiv {x : Int} {d : Int} (h : d ∣ x) (n : d ≠ 0) : (x.fdiv d).natAbs ≤ x.natAbs := by
  have e := fdiv_mul h n
  have : x.natAbs = d.natAbs * (x.fdiv d).natAbs := by rw [← Int.natAbs_mul, e]
  rw [this]
  exact Nat.le_mul_of_pos_left _ (Int.natAbs_pos.mpr n)
theorem Bits.div {b : Nat} {d : Int} {l : IL} (h : Bits b l) (hd : ∀ x ∈ l, d ∣ x) (n : d ≠ 0) : Bits b (divL d l) := by
  intro x hx
  obtain ⟨y, hy, rfl⟩ := List.mem_map.mp hx
  exact Nat.lt_of_le_of_lt (natAbs_fdiv (hd y hy) n) (h y hy)
theorem Bits.at {b : Nat} {l : IL} (h : Bits b l) (i : Nat) : (at0 l i).natAbs < 2 ^ b := by
  unfold at0
  rw [List.getD_eq_getElem?_getD]
  cases e : l[i]? with
  | none => exact Nat.pow_pos (by decide)
  | some x => exact h x (List.mem_of_getElem? e)
theorem mem_zip {f : Int → Int → Int} {u v : IL} {z : Int} (h : z ∈ List.zipWith f u v) : ∃ a ∈ u, ∃ b ∈ v, z = f a b := by
  obtain ⟨i, hi⟩ := List.getElem?_of_mem h
  rw [List.getElem?_zipWith] at hi
  cases e1 : u[i]? with
  | none => rw [e1] at hi; simp at hi
  | some a =>
    cases e2 : v[i]? with
    | none => rw [e1, e2] at hi; simp at hi
    | some b =>
      rw [e1, e2] at hi
      cases hi
      exact ⟨a, List.mem_of_getElem? e1, b, List.mem_of_getElem? e2, rfl⟩
theorem Bits.comb {x y : Nat} {s t : Int} {u v : IL} (hs : s.natAbs < 2 ^ y) (ht : t.natAbs < 2 ^ x) (hu : Bits x u) (hv : Bits y v) : Bits (x + y + 1) (GX.comb s t u v) := by
  intro z hz
  obtain ⟨a, ha, b, hb, rfl⟩ := mem_zip hz
  have := bits_comb hs ht (hu a ha) (hv b hb)
  have := Int.natAbs_sub_le (s * a) (t * b)
  omega
theorem Bits.combA {x y : Nat} {s t : Int} {u v : IL} (hs : s.natAbs < 2 ^ y) (ht : t.natAbs < 2 ^ x) (hu : Bits x u) (hv : Bits y v) : Bits (x + y + 1) (GX.combA s t u v) := by
  intro z hz
  obtain ⟨a, ha, b, hb, rfl⟩ := mem_zip hz
  have := bits_comb hs ht (hu a ha) (hv b hb)
  have := Int.natAbs_add_le (s * a) (t * b)
  omega
end GX

set_option Elab.async false
set_option linter.all false
set_option maxRecDepth 100000
set_option maxHeartbeats 4000000
/-! ### rows put into a span -/
namespace GX
/-- a row kept: its pivot, the row, its mixture of the rows that were put in -/
abbrev PRow := Nat × IL × IL
abbrev LRow := Nat × IL
def pad (m : Nat) (l : IL) : IL := l ++ List.replicate (m - l.length) 0
def stepP (m : Nat) (st : IL × IL × Int) (r : PRow) : IL × IL × Int :=
  if at0 st.1 r.1 = 0 then st else
    (divL (cm (comb (at0 r.2.1 r.1) (at0 st.1 r.1) st.1 r.2.1 ++ combA (at0 r.2.1 r.1) (at0 st.1 r.1) st.2.1 (pad m r.2.2) ++ [st.2.2 * at0 r.2.1 r.1])) (comb (at0 r.2.1 r.1) (at0 st.1 r.1) st.1 r.2.1),
     divL (cm (comb (at0 r.2.1 r.1) (at0 st.1 r.1) st.1 r.2.1 ++ combA (at0 r.2.1 r.1) (at0 st.1 r.1) st.2.1 (pad m r.2.2) ++ [st.2.2 * at0 r.2.1 r.1])) (combA (at0 r.2.1 r.1) (at0 st.1 r.1) st.2.1 (pad m r.2.2)),
     (st.2.2 * at0 r.2.1 r.1).fdiv (cm (comb (at0 r.2.1 r.1) (at0 st.1 r.1) st.1 r.2.1 ++ combA (at0 r.2.1 r.1) (at0 st.1 r.1) st.2.1 (pad m r.2.2) ++ [st.2.2 * at0 r.2.1 r.1])))
def lowP (m : Nat) (rows : List PRow) (v : IL) : IL × IL × Int := rows.foldl (stepP m) (v, List.replicate m 0, 1)
def stepL (u : IL) (r : LRow) : IL :=
  if at0 u r.1 = 0 then u else divL (max (cm (comb (at0 r.2 r.1) (at0 u r.1) u r.2) : Int) 1) (comb (at0 r.2 r.1) (at0 u r.1) u r.2)
def lowL (rows : List LRow) (v : IL) : IL := rows.foldl stepL v
def piv (u : IL) : List Nat := (List.range u.length).filter fun i => decide (at0 u i ≠ 0)
def addL (bs : List LRow) (v : IL) : List LRow := match piv (lowL bs v) with
  | [] => bs
  | p :: _ => bs ++ [(p, lowL bs v)]
def basisL (S : List IL) : List LRow := S.foldl addL []
def dotS : IL → List IL → Nat → Int
  | a :: c, s :: S, i => a * at0 s i + dotS c S i
  | _, _, _ => 0
theorem dotS_combA {s t : Int} {i : Nat} : ∀ (u v : IL) (S : List IL), u.length = v.length → dotS (combA s t u v) S i = s * dotS u S i + t * dotS v S i
  | [], [], S, _ => by simp [combA, dotS]
  | a :: u, b :: v, [], _ => by simp [combA, dotS]
  | a :: u, b :: v, x :: S, h => by
    have := dotS_combA (s := s) (t := t) (i := i) u v S (by simpa using h)
    show (s * a + t * b) * at0 x i + dotS (combA s t u v) S i = s * (a * at0 x i + dotS u S i) + t * (b * at0 x i + dotS v S i)
    rw [this, Int.add_mul, Int.mul_add, Int.mul_add, Int.mul_assoc, Int.mul_assoc]
    omega
theorem dotS_div {d : Int} {i : Nat} (n : d ≠ 0) : ∀ (u : IL) (S : List IL), (∀ x ∈ u, d ∣ x) → d * dotS (divL d u) S i = dotS u S i
  | [], S, _ => by simp [divL, dotS]
  | a :: u, [], _ => by simp [divL, dotS]
  | a :: u, x :: S, h => by
    have := dotS_div (i := i) n u S fun y hy => h y (List.mem_cons_of_mem _ hy)
    show d * (a.fdiv d * at0 x i + dotS (divL d u) S i) = a * at0 x i + dotS u S i
    rw [Int.mul_add, this, ← Int.mul_assoc, fdiv_mul (h a (List.mem_cons_self ..)) n]
theorem dotS_zero {i : Nat} : ∀ (k : Nat) (S : List IL), dotS (List.replicate k 0) S i = 0
  | 0, S => by simp [dotS]
  | k + 1, [] => by simp [dotS, List.replicate_succ]
  | k + 1, x :: S => by rw [List.replicate_succ, dotS, dotS_zero k S]; simp
theorem dotS_pad {i k : Nat} : ∀ (l : IL) (S : List IL), dotS (l ++ List.replicate k 0) S i = dotS l S i
  | [], S => by rw [List.nil_append, dotS_zero]; simp [dotS]
  | a :: l, [] => by simp [dotS]
  | a :: l, x :: S => by rw [List.cons_append, dotS, dotS, dotS_pad l S]
theorem dotS_more {i : Nat} : ∀ (l : IL) (S R : List IL), l.length ≤ S.length → dotS l (S ++ R) i = dotS l S i
  | [], S, R, _ => by simp [dotS]
  | a :: l, [], R, h => by simp at h
  | a :: l, x :: S, R, h => by rw [List.cons_append, dotS, dotS, dotS_more l S R (by simpa using h)]
theorem dotS_snoc {i : Nat} {d : Int} {v : IL} : ∀ (l : IL) (S : List IL), l.length = S.length → dotS (l ++ [d]) (S ++ [v]) i = dotS l S i + d * at0 v i
  | [], [], _ => by simp [dotS]
  | a :: l, x :: S, h => by
    rw [List.cons_append, List.cons_append, dotS, dotS, dotS_snoc l S (by simpa using h)]
    omega
theorem dotS_neg {i : Nat} : ∀ (l : IL) (S : List IL), dotS (l.map fun x => -x) S i = - dotS l S i
  | [], S => by simp [dotS]
  | a :: l, [] => by simp [dotS]
  | a :: l, x :: S => by
    rw [List.map_cons, dotS, dotS, dotS_neg l S, Int.neg_mul]
    omega
/-- how many bits a row kept has at most -/
def cB (j : Nat) : Nat := 150 * 2 ^ j
/-- the state of a lowering -/
structure LowOk (w : Nat) (v : IL) (S : List IL) (done : List PRow) (x : Nat) (st : IL × IL × Int) (u : IL) : Prop where
  l1 : st.1.length = w
  l2 : st.2.1.length = S.length
  den : st.2.2 ≠ 0
  eq : ∀ i, at0 st.1 i = st.2.2 * at0 v i - dotS st.2.1 S i
  b1 : Bits x st.1
  b2 : Bits x st.2.1
  b3 : st.2.2.natAbs < 2 ^ x
  z : ∀ r ∈ done, at0 st.1 r.1 = 0
  pr : Pr st.1 u
  bu : Bits x u
/-- a row kept, the j-th -/
structure RowOk (w : Nat) (S : List IL) (j : Nat) (r : PRow) (q : LRow) : Prop where
  p : r.1 < w
  l1 : r.2.1.length = w
  l2 : r.2.2.length = j + 1
  ne : at0 r.2.1 r.1 ≠ 0
  b1 : Bits (cB j) r.2.1
  b2 : Bits (cB j) r.2.2
  eq : ∀ i, at0 r.2.1 i = dotS r.2.2 S i
  same : r.1 = q.1
  pr : Pr r.2.1 q.2
  bq : Bits (cB j) q.2
theorem pad_len {m : Nat} {l : IL} (h : l.length ≤ m) : (pad m l).length = m := by unfold pad; rw [List.length_append, List.length_replicate]; omega
theorem Bits.pad {b m : Nat} {l : IL} (h : Bits b l) : Bits b (GX.pad m l) := fun x hx => by
  rcases List.mem_append.mp hx with q | q
  · exact h x q
  · rw [List.eq_of_mem_replicate q]
    exact Nat.pow_pos (by decide)
theorem pr_div {u v : IL} {d e : Int} (p : Pr u v) (hd : d ≠ 0) (he : e ≠ 0) (du : ∀ x ∈ u, d ∣ x) (dv : ∀ x ∈ v, e ∣ x) : Pr (divL d u) (divL e v) := p.div hd he du dv
/-- one row more is used -/
theorem LowOk.step {w x j : Nat} {v u : IL} {S : List IL} {done : List PRow} {st : IL × IL × Int} {r : PRow} {q : LRow} (o : LowOk w v S done x st u) (k : RowOk w S j r q) (hj : j < S.length) (z2 : ∀ r' ∈ done, at0 r.2.1 r'.1 = 0) :
    LowOk w v S (done ++ [r]) (x + cB j + 1) (stepP S.length st r) (stepL u q) := by
  have hup : x ≤ x + cB j + 1 := by omega
  unfold stepP stepL
  by_cases e : at0 st.1 r.1 = 0
  · rw [if_pos e, if_pos (k.same ▸ (o.pr.zero r.1).mp e)]
    refine ⟨o.l1, o.l2, o.den, o.eq, o.b1.up hup, o.b2.up hup, Nat.lt_of_lt_of_le o.b3 (Nat.pow_le_pow_right (by decide) hup), fun r' h => ?_, o.pr, o.bu.up hup⟩
    rcases List.mem_append.mp h with h | h
    · exact o.z r' h
    · rw [List.mem_singleton.mp h]
      exact e
  · rw [if_neg e, if_neg (k.same ▸ fun h => e ((o.pr.zero r.1).mpr h))]
    have hl : st.1.length = r.2.1.length := by rw [o.l1, k.l1]
    have hl2 : st.2.1.length = (pad S.length r.2.2).length := by rw [pad_len (by rw [k.l2]; omega), o.l2]
    have hq : u.length = q.2.length := by rw [← o.pr.len, hl, k.pr.len]
    have nd : st.2.2 * at0 r.2.1 r.1 ≠ 0 := Int.mul_ne_zero o.den k.ne
    generalize hR : comb (at0 r.2.1 r.1) (at0 st.1 r.1) st.1 r.2.1 = R
    generalize hF : combA (at0 r.2.1 r.1) (at0 st.1 r.1) st.2.1 (pad S.length r.2.2) = F
    generalize hD : st.2.2 * at0 r.2.1 r.1 = Dn at nd
    generalize hU : comb (at0 q.2 q.1) (at0 u q.1) u q.2 = U
    have lR : R.length = w := by rw [← hR, comb_len hl, o.l1]
    have lF : F.length = S.length := by rw [← hF, combA_len hl2, o.l2]
    have dv : ∀ y ∈ R ++ F ++ [Dn], (cm (R ++ F ++ [Dn]) : Int) ∣ y := fun y hy => cm_dvd hy
    have dp : ((cm (R ++ F ++ [Dn]) : Nat) : Int) ≠ 0 := by
      have := cm_pos (l := R ++ F ++ [Dn]) (x := Dn) (List.mem_append_right _ (List.mem_singleton.mpr rfl)) nd
      omega
    generalize ((cm (R ++ F ++ [Dn]) : Nat) : Int) = d at dv dp
    have dR : ∀ y ∈ R, d ∣ y := fun y hy => dv y (List.mem_append_left _ (List.mem_append_left _ hy))
    have dF : ∀ y ∈ F, d ∣ y := fun y hy => dv y (List.mem_append_left _ (List.mem_append_right _ hy))
    have dD : d ∣ Dn := dv Dn (List.mem_append_right _ (List.mem_singleton.mpr rfl))
    have eD := fdiv_mul dD dp
    have ep : (max ((cm U : Nat) : Int) 1) ≠ 0 := by omega
    have eU : ∀ y ∈ U, (max ((cm U : Nat) : Int) 1) ∣ y := fun y hy => by
      by_cases h0 : cm U = 0
      · rw [show max ((cm U : Nat) : Int) 1 = 1 from by omega]
        exact Int.one_dvd y
      · rw [show max ((cm U : Nat) : Int) 1 = ((cm U : Nat) : Int) from by omega]
        exact cm_dvd hy
    have pRU : Pr R U := by
      rw [← hR, ← hU]
      have := o.pr.step (p := r.1) k.pr hl
      rw [k.same] at this ⊢
      exact this
    have bR : Bits (x + cB j + 1) R := hR ▸ Bits.comb (k.b1.at r.1) (o.b1.at r.1) o.b1 k.b1
    have bF : Bits (x + cB j + 1) F := hF ▸ Bits.combA (k.b1.at r.1) (o.b1.at r.1) o.b2 k.b2.pad
    have bU : Bits (x + cB j + 1) U := hU ▸ Bits.comb (k.bq.at q.1) (o.bu.at q.1) o.bu k.bq
    have bD : Dn.natAbs < 2 ^ (x + cB j + 1) := by
      have h1 := k.b1.at r.1
      have h2 := o.b3
      rw [← hD, Int.natAbs_mul, Nat.add_assoc, Nat.pow_add]
      exact Nat.lt_of_lt_of_le (Nat.mul_lt_mul_of_lt_of_le h2 (Nat.le_of_lt h1) (Nat.pow_pos (by decide))) (Nat.mul_le_mul_left _ (Nat.pow_le_pow_right (by decide) (by omega)))
    have eR : ∀ i, at0 R i = Dn * at0 v i - dotS F S i := fun i => by
      have e1 := o.eq i
      have e2 := k.eq i
      rw [← hR, ← hF, ← hD, at_comb hl, dotS_combA _ _ _ hl2]
      generalize at0 r.2.1 r.1 = A
      generalize at0 st.1 r.1 = B
      rw [e1, e2]
      unfold pad
      rw [dotS_pad, Int.mul_sub, Int.mul_comm st.2.2 A, Int.mul_assoc]
      omega
    refine ⟨by rw [divL_len]; exact lR, by rw [divL_len]; exact lF, fun h => ?_, fun i => ?_, bR.div dR dp, bF.div dF dp, Nat.lt_of_le_of_lt (natAbs_fdiv dD dp) bD, fun r' h => ?_, pRU.div dp ep dR eU, bU.div eU ep⟩
    · have h : Dn.fdiv d = 0 := h
      rw [h, Int.mul_zero] at eD
      exact nd eD.symm
    · have h1 := at_div dR dp i
      have h2 := dotS_div (i := i) dp F S dF
      refine Int.eq_of_mul_eq_mul_left dp ?_
      show d * at0 (divL d R) i = d * (Dn.fdiv d * at0 v i - dotS (divL d F) S i)
      rw [h1, Int.mul_sub, h2, ← Int.mul_assoc, eD, eR]
    · have h1 := at_div dR dp r'.1
      have h3 : at0 R r'.1 = 0 := by
        rw [← hR, at_comb hl]
        rcases List.mem_append.mp h with h | h
        · rw [o.z r' h, z2 r' h]
          simp
        · rw [List.mem_singleton.mp h]
          rw [Int.mul_comm]
          omega
      rw [h3] at h1
      exact (Int.mul_eq_zero.mp h1).resolve_left dp
end GX

set_option Elab.async false
set_option linter.all false
set_option maxRecDepth 100000
set_option maxHeartbeats 4000000
/-! ### spans: what is kept, coordinates -/
namespace GX
/-- how many bits a state has at most -/
def xB (n : Nat) : Nat := 145 + 150 * (2 ^ n - 1) + n
theorem xB_succ (n : Nat) : xB n + cB n + 1 = xB (n + 1) := by
  unfold xB cB
  have : 0 < 2 ^ n := Nat.pow_pos (by decide)
  rw [Nat.pow_succ]
  omega
theorem xB_cB {n : Nat} (h : n ≤ 5) : xB n ≤ cB n := by
  unfold xB cB
  have : 0 < 2 ^ n := Nat.pow_pos (by decide)
  omega
theorem xB_le {n : Nat} (h : n ≤ 5) : xB n ≤ 4800 := by
  have : 2 ^ n ≤ 2 ^ 5 := Nat.pow_le_pow_right (by decide) h
  unfold xB
  omega
theorem cB_le {n : Nat} (h : n ≤ 5) : cB n ≤ 4800 := by
  have : 2 ^ n ≤ 2 ^ 5 := Nat.pow_le_pow_right (by decide) h
  unfold cB
  omega
structure SpOk (w : Nat) (S : List IL) (rows : List PRow) : Prop where
  lS : rows.length = S.length
  lb : (basisL S).length = rows.length
  row : ∀ (j : Nat) r q, rows[j]? = some r → (basisL S)[j]? = some q → RowOk w S j r q
  tri : ∀ (i j : Nat) r' r, i < j → rows[i]? = some r' → rows[j]? = some r → at0 r.2.1 r'.1 = 0
theorem piv_mem {u : IL} {i : Nat} : i ∈ piv u ↔ i < u.length ∧ at0 u i ≠ 0 := by
  unfold piv
  rw [List.mem_filter, List.mem_range, decide_eq_true_eq]
theorem piv_pr {u v : IL} (p : Pr u v) : piv u = piv v := by
  unfold piv
  rw [p.len]
  refine List.filter_congr fun i _ => decide_eq_decide.mpr ?_
  exact ⟨fun h e => h ((p.zero i).mpr e), fun h e => h ((p.zero i).mp e)⟩
theorem piv_nil {u : IL} : piv u = [] ↔ ∀ i, at0 u i = 0 := by
  constructor
  · intro h i
    by_cases hi : i < u.length
    · by_cases e : at0 u i = 0
      · exact e
      · have := piv_mem.mpr ⟨hi, e⟩
        rw [h] at this
        cases this
    · unfold at0
      rw [List.getD_eq_getElem?_getD, List.getElem?_eq_none (by omega)]
      rfl
  · intro h
    cases e : piv u with
    | nil => rfl
    | cons p r =>
      have : p ∈ piv u := by rw [e]; exact List.mem_cons_self ..
      exact absurd (h p) (piv_mem.mp this).2
theorem SpOk.start (w : Nat) : SpOk w [] [] := ⟨rfl, rfl, fun j r q e => (by cases e), fun i j r' r _ e => (by cases e)⟩
theorem basisL_snoc (S : List IL) (v : IL) : basisL (S ++ [v]) = addL (basisL S) v := by
  unfold basisL
  rw [List.foldl_append]
  rfl
section
variable {w : Nat} {S : List IL} {rows : List PRow} {v : IL}
theorem SpOk.few (o : SpOk w S rows) : rows.length ≤ w := by
  have nd : (rows.map (·.1)).Nodup := by
    rw [List.nodup_iff_pairwise_ne, List.pairwise_iff_getElem]
    intro i j hi hj hij e
    rw [List.length_map] at hi hj
    rw [List.getElem_map, List.getElem_map] at e
    have ej := List.getElem?_eq_getElem hj
    have eq := List.getElem?_eq_getElem (show j < (basisL S).length by rw [o.lb]; exact hj)
    have z := o.tri i j _ _ hij (List.getElem?_eq_getElem hi) ej
    rw [e] at z
    exact (o.row j _ _ ej eq).ne z
  have := len_le_of_sub nd (m := List.range w) fun x hx => by
    obtain ⟨r, hr, rfl⟩ := List.mem_map.mp hx
    obtain ⟨j, hj⟩ := List.getElem?_of_mem hr
    have hj2 := (List.getElem?_eq_some_iff.mp hj).1
    have eq := List.getElem?_eq_getElem (show j < (basisL S).length by rw [o.lb]; exact hj2)
    exact List.mem_range.mpr (o.row j _ _ hj eq).p
  rwa [List.length_map, List.length_range] at this
/-- lowered by the first rows -/
theorem SpOk.low (o : SpOk w S rows) (hv : v.length = w) (bv : Bits 145 v) : ∀ n, n ≤ rows.length → LowOk w v S (rows.take n) (xB n) ((rows.take n).foldl (stepP S.length) (v, List.replicate S.length 0, 1)) (((basisL S).take n).foldl stepL v)
  | 0, _ => by
    rw [List.take_zero, List.take_zero]
    refine ⟨hv, List.length_replicate, (by decide : (1 : Int) ≠ 0), fun i => ?_, bv, fun x hx => ?_, (by decide +kernel : (1 : Int).natAbs < 2 ^ xB 0), fun r h => (nomatch h), .refl v, bv⟩
    · show at0 v i = 1 * at0 v i - dotS (List.replicate S.length 0) S i
      rw [dotS_zero]
      omega
    · rw [List.eq_of_mem_replicate hx]
      exact Nat.pow_pos (by decide)
  | n + 1, h => by
    have ih := SpOk.low o hv bv n (by omega)
    have er := List.getElem?_eq_getElem (show n < rows.length by omega)
    have eq := List.getElem?_eq_getElem (show n < (basisL S).length by rw [o.lb]; omega)
    have k := o.row n _ _ er eq
    rw [List.take_succ, List.take_succ, er, eq]
    show LowOk w v S (rows.take n ++ [_]) _ (List.foldl _ _ (rows.take n ++ [_])) (List.foldl _ _ ((basisL S).take n ++ [_]))
    rw [List.foldl_append, List.foldl_append, ← xB_succ]
    refine ih.step k (by rw [← o.lS]; omega) fun r' hr' => ?_
    obtain ⟨i, hi⟩ := List.getElem?_of_mem hr'
    rw [List.getElem?_take] at hi
    split at hi
    · rename_i hin
      exact o.tri i n _ _ hin hi er
    · cases hi
theorem SpOk.lowAll (o : SpOk w S rows) (hv : v.length = w) (bv : Bits 145 v) : LowOk w v S rows (xB rows.length) (lowP S.length rows v) (lowL (basisL S) v) := by
  have := o.low hv bv rows.length (Nat.le_refl _)
  rw [List.take_length, ← o.lb, List.take_length, o.lb] at this
  exact this
/-- a row put in -/
theorem SpOk.put (o : SpOk w S rows) (hw : w ≤ 5) (hv : v.length = w) (bv : Bits 145 v) {p : Nat} {ps : List Nat} (e : piv (lowP S.length rows v).1 = p :: ps) :
    SpOk w (S ++ [v]) (rows ++ [(p, (lowP S.length rows v).1, (lowP S.length rows v).2.1.map (fun x => -x) ++ [(lowP S.length rows v).2.2])]) := by
  have L := o.lowAll hv bv
  have few := o.few
  generalize lowP S.length rows v = st at L e
  have eb : basisL (S ++ [v]) = basisL S ++ [(p, lowL (basisL S) v)] := by
    rw [basisL_snoc]
    unfold addL
    rw [← piv_pr L.pr, e]
  generalize lowL (basisL S) v = u at L eb
  have pm : p ∈ piv st.1 := by rw [e]; exact List.mem_cons_self ..
  obtain ⟨p1, p2⟩ := piv_mem.mp pm
  have x5 := xB_cB (show rows.length ≤ 5 by omega)
  have new : RowOk w (S ++ [v]) rows.length (p, st.1, st.2.1.map (fun x => -x) ++ [st.2.2]) (p, u) := by
    refine ⟨by rw [← L.l1]; exact p1, L.l1, ?_, p2, L.b1.up x5, fun x hx => ?_, fun i => ?_, rfl, L.pr, L.bu.up x5⟩
    · show (st.2.1.map (fun x => -x) ++ [st.2.2]).length = _
      rw [List.length_append, List.length_map, L.l2, o.lS]
      rfl
    · rcases List.mem_append.mp hx with h | h
      · obtain ⟨y, hy, rfl⟩ := List.mem_map.mp h
        rw [Int.natAbs_neg]
        exact L.b2.up x5 y hy
      · rw [List.mem_singleton.mp h]
        exact Nat.lt_of_lt_of_le L.b3 (Nat.pow_le_pow_right (by decide) x5)
    · show at0 st.1 i = dotS (st.2.1.map (fun x => -x) ++ [st.2.2]) (S ++ [v]) i
      rw [dotS_snoc _ _ (by rw [List.length_map]; exact L.l2), dotS_neg, L.eq]
      omega
  refine ⟨by rw [List.length_append, List.length_append, o.lS]; rfl, by rw [eb, List.length_append, List.length_append, o.lb]; rfl, fun j r q er eq => ?_, fun i j r' r hij ei ej => ?_⟩
  · rw [eb] at eq
    rcases Nat.lt_or_ge j rows.length with h | h
    · rw [List.getElem?_append_left h] at er
      rw [List.getElem?_append_left (by rw [o.lb]; exact h)] at eq
      have k := o.row j r q er eq
      exact ⟨k.p, k.l1, k.l2, k.ne, k.b1, k.b2, fun i => by rw [dotS_more _ _ _ (by rw [k.l2, ← o.lS]; omega)]; exact k.eq i, k.same, k.pr, k.bq⟩
    · rw [List.getElem?_append_right h] at er
      rw [List.getElem?_append_right (by rw [o.lb]; exact h), o.lb] at eq
      cases q0 : j - rows.length with
      | zero =>
        rw [q0] at er eq
        cases er
        cases eq
        obtain rfl : j = rows.length := by omega
        exact new
      | succ m => rw [q0] at er; cases er
  · rcases Nat.lt_or_ge j rows.length with h | h
    · rw [List.getElem?_append_left h] at ej
      rw [List.getElem?_append_left (by omega)] at ei
      exact o.tri i j r' r hij ei ej
    · rw [List.getElem?_append_right h] at ej
      cases q0 : j - rows.length with
      | zero =>
        rw [q0] at ej
        cases ej
        rw [List.getElem?_append_left (by omega)] at ei
        exact L.z r' (List.mem_of_getElem? ei)
      | succ m => rw [q0] at ej; cases ej
end
/-! ### fractions in lowest terms -/
def redD (c : IL) (d : Int) : Int := if d < 0 then -((cm (c ++ [d]) : Nat) : Int) else ((cm (c ++ [d]) : Nat) : Int)
section
variable {c : IL} {d : Int}
theorem redD_ne (h : d ≠ 0) : redD c d ≠ 0 := by
  have := cm_pos (l := c ++ [d]) (x := d) (List.mem_append_right _ (List.mem_singleton.mpr rfl)) h
  unfold redD
  split <;> omega
theorem redD_dvd {x : Int} (h : x ∈ c ++ [d]) : redD c d ∣ x := by
  have := cm_dvd h
  unfold redD
  split
  · exact Int.neg_dvd.mpr this
  · exact this
theorem redD_pos (h : d ≠ 0) : 1 ≤ d.fdiv (redD c d) := by
  have e := fdiv_mul (redD_dvd (c := c) (d := d) (List.mem_append_right _ (List.mem_singleton.mpr rfl))) (redD_ne (c := c) h)
  have n := cm_pos (l := c ++ [d]) (x := d) (List.mem_append_right _ (List.mem_singleton.mpr rfl)) h
  unfold redD at e ⊢
  split at e <;> rename_i hd
  · rw [if_pos hd]
    generalize d.fdiv _ = k at e
    rcases Int.lt_or_le k 1 with q | q
    · exfalso
      have : (0 : Int) ≤ -((cm (c ++ [d]) : Nat) : Int) * k := by
        rw [Int.neg_mul, ← Int.mul_neg]
        exact Int.mul_nonneg (by omega) (by omega)
      omega
    · exact q
  · rw [if_neg hd]
    generalize d.fdiv _ = k at e
    rcases Int.lt_or_le k 1 with q | q
    · exfalso
      have : (0 : Int) ≤ ((cm (c ++ [d]) : Nat) : Int) * -k := Int.mul_nonneg (by omega) (by omega)
      rw [Int.mul_neg] at this
      omega
    · exact q
theorem redD_cm (h : d ≠ 0) : cm (divL (redD c d) c ++ [d.fdiv (redD c d)]) = 1 := by
  have hn := redD_ne (c := c) h
  have ab : (redD c d).natAbs = cm (c ++ [d]) := by unfold redD; split <;> simp
  generalize hg : redD c d = g at hn ab
  have dv : ∀ x ∈ c ++ [d], g ∣ x := fun x hx => hg ▸ redD_dvd hx
  have el : divL g c ++ [d.fdiv g] = divL g (c ++ [d]) := by unfold divL; rw [List.map_append]; rfl
  rw [el]
  have h1 : cm (divL g (c ++ [d])) * g.natAbs ∣ cm (c ++ [d]) := by
    refine cm_great fun x hx => ?_
    have e := fdiv_mul (dv x hx) hn
    have h2 : (cm (divL g (c ++ [d])) : Int) ∣ x.fdiv g := cm_dvd (List.mem_map_of_mem (f := fun x => x.fdiv g) hx)
    refine Int.ofNat_dvd_left.mpr ?_
    rw [← e, Int.natAbs_mul, Nat.mul_comm]
    exact Nat.mul_dvd_mul (Nat.dvd_refl _) (Int.ofNat_dvd_left.mp h2)
  rw [← ab] at h1
  have gp : 0 < g.natAbs := Int.natAbs_pos.mpr hn
  have : cm (divL g (c ++ [d])) ∣ 1 := by
    obtain ⟨k, hk⟩ := h1
    refine ⟨k, ?_⟩
    have e : g.natAbs * 1 = g.natAbs * (cm (divL g (c ++ [d])) * k) := by
      rw [Nat.mul_one]
      conv => lhs; rw [hk]
      ac_rfl
    exact Nat.eq_of_mul_eq_mul_left gp e
  exact Nat.dvd_one.mp this
theorem red_eq {S : List IL} {v : IL} (h : d ≠ 0) {i : Nat} (e : d * at0 v i = dotS c S i) : d.fdiv (redD c d) * at0 v i = dotS (divL (redD c d) c) S i := by
  have hn := redD_ne (c := c) h
  have e1 := fdiv_mul (redD_dvd (c := c) (d := d) (List.mem_append_right _ (List.mem_singleton.mpr rfl))) hn
  have e2 := dotS_div (i := i) hn c S fun x hx => redD_dvd (List.mem_append_left _ hx)
  refine Int.eq_of_mul_eq_mul_left hn ?_
  rw [e2, ← e, ← Int.mul_assoc, e1]
end
end GX

set_option Elab.async false
set_option linter.all false
set_option maxRecDepth 100000
set_option maxHeartbeats 4000000
/-! ### sums, the span of a list of rows -/
namespace GX
def sumR : Nat → (Nat → Int) → Int
  | 0, _ => 0
  | n + 1, f => sumR n f + f n
theorem sumR_succ (n : Nat) (f : Nat → Int) : sumR (n + 1) f = sumR n f + f n := rfl
theorem sumR_congr {f g : Nat → Int} : ∀ n, (∀ i, i < n → f i = g i) → sumR n f = sumR n g
  | 0, _ => rfl
  | n + 1, h => by
    rw [sumR_succ, sumR_succ]
    rw [sumR_congr n fun i hi => h i (by omega), h n (by omega)]
theorem sumR_zero {f : Nat → Int} (n : Nat) (h : ∀ i, i < n → f i = 0) : sumR n f = 0 := by
  induction n with
  | zero => rfl
  | succ n ih =>
    rw [sumR_succ]
    rw [ih fun i hi => h i (by omega), h n (by omega)]
    rfl
theorem sumR_add (f g : Nat → Int) (n : Nat) : sumR n (fun i => f i + g i) = sumR n f + sumR n g := by
  induction n with
  | zero => rfl
  | succ n ih =>
    rw [sumR_succ, sumR_succ, sumR_succ]
    rw [ih]
    omega
theorem sumR_mul (a : Int) (f : Nat → Int) (n : Nat) : sumR n (fun i => a * f i) = a * sumR n f := by
  induction n with
  | zero => exact (Int.mul_zero a).symm
  | succ n ih =>
    rw [sumR_succ, sumR_succ]
    rw [ih, Int.mul_add]
theorem sumR_lin (a b : Int) (f g : Nat → Int) (n : Nat) : sumR n (fun i => a * f i - b * g i) = a * sumR n f - b * sumR n g := by
  have := sumR_add (fun i => a * f i) (fun i => (-b) * g i) n
  rw [sumR_mul, sumR_mul] at this
  rw [show (fun i => a * f i - b * g i) = (fun i => a * f i + -b * g i) from by funext i; rw [Int.neg_mul]; omega, this, Int.neg_mul]
  omega
theorem sumR_one {f : Nat → Int} {p : Nat} : ∀ n, p < n → (∀ i, i < n → i ≠ p → f i = 0) → sumR n f = f p
  | 0, h, _ => absurd h (Nat.not_lt_zero _)
  | n + 1, h, z => by
    rw [sumR_succ]
    by_cases e : p = n
    · subst e
      rw [sumR_zero p fun i hi => z i (by omega) (by omega), Int.zero_add]
    · rw [sumR_one n (by omega) fun i hi ne => z i (by omega) ne, z n (by omega) (Ne.symm e), Int.add_zero]
theorem sumR_two {f : Nat → Int} {p q : Nat} (ne : p ≠ q) : ∀ n, p < n → q < n → (∀ i, i < n → i ≠ p → i ≠ q → f i = 0) → sumR n f = f p + f q
  | 0, h, _, _ => absurd h (Nat.not_lt_zero _)
  | n + 1, hp, hq, z => by
    rw [sumR_succ]
    by_cases e : p = n
    · subst e
      rw [sumR_one (p := q) p (by omega) fun i hi n1 => z i (by omega) (by omega) n1]
      omega
    · by_cases e2 : q = n
      · subst e2
        rw [sumR_one (p := p) q (by omega) fun i hi n1 => z i (by omega) n1 (by omega)]
      · rw [sumR_two ne n (by omega) (by omega) fun i hi n1 n2 => z i (by omega) n1 n2, z n (by omega) (Ne.symm e) (Ne.symm e2), Int.add_zero]
theorem sumR_cut {f : Nat → Int} {p : Nat} : ∀ n, p ≤ n → (∀ i, p ≤ i → i < n → f i = 0) → sumR n f = sumR p f
  | 0, h, _ => by
    obtain rfl : p = 0 := by omega
    rfl
  | n + 1, h, z => by
    by_cases e : p = n + 1
    · rw [e]
    · rw [sumR_succ, z n (by omega) (by omega), Int.add_zero]
      exact sumR_cut n (by omega) fun i h1 h2 => z i h1 (by omega)
theorem sumR_cons (f : Nat → Int) : ∀ n, sumR (n + 1) f = f 0 + sumR n (fun i => f (i + 1))
  | 0 => by simp [sumR]
  | n + 1 => by
    have := sumR_cons f n
    rw [show sumR (n + 1 + 1) f = sumR (n + 1) f + f (n + 1) from rfl, this]
    show _ = f 0 + (sumR n (fun i => f (i + 1)) + f (n + 1))
    omega
theorem sum_zip : ∀ (u v : IL), u.length = v.length → (List.zipWith (fun a b => a * b) u v).sum = sumR u.length fun i => at0 u i * at0 v i
  | [], v, _ => rfl
  | a :: u, [], h => by cases h
  | a :: u, b :: v, h => by
    rw [List.length_cons, sumR_cons]
    show a * b + (List.zipWith (fun a b => a * b) u v).sum = _
    rw [sum_zip u v (by simpa using h)]
    rfl
/-! ### in the span of rows with places -/
def rw0 (bs : List LRow) (j : Nat) : IL := (bs.getD j (0, [])).2
def pl0 (bs : List LRow) (j : Nat) : Nat := (bs.getD j (0, [])).1
/-- a multiple is a sum of the first n of R -/
def InG (n : Nat) (R : Nat → Nat → Int) (x : Nat → Int) : Prop := ∃ (d : Int) (f : Nat → Int), d ≠ 0 ∧ ∀ i, d * x i = sumR n fun j => f j * R j i
abbrev InSp (bs : List LRow) (x : Nat → Int) : Prop := InG bs.length (fun j => at0 (rw0 bs j)) x
section
variable {n m : Nat} {R T : Nat → Nat → Int} {x y : Nat → Int}
theorem InG.zero : InG n R fun _ => 0 := ⟨1, fun _ => 0, by decide, fun i => by rw [sumR_zero _ fun j _ => Int.zero_mul _]; rfl⟩
theorem InG.add (a : InG n R x) (b : InG n R y) : InG n R fun i => x i + y i := by
  obtain ⟨d, f, hd, hf⟩ := a
  obtain ⟨e, g, he, hg⟩ := b
  refine ⟨d * e, fun j => e * f j + d * g j, Int.mul_ne_zero hd he, fun i => ?_⟩
  have h1 := sumR_add (fun j => e * (f j * R j i)) (fun j => d * (g j * R j i)) n
  rw [sumR_mul, sumR_mul, ← hf, ← hg] at h1
  have h2 := sumR_congr (f := fun j => (e * f j + d * g j) * R j i) (g := fun j => e * (f j * R j i) + d * (g j * R j i)) n fun j _ => by rw [Int.add_mul, Int.mul_assoc, Int.mul_assoc]
  rw [h2, h1, Int.mul_add]
  congr 1
  · rw [Int.mul_comm d e, Int.mul_assoc]
  · rw [Int.mul_assoc]
theorem InG.smul (c : Int) (a : InG n R x) : InG n R fun i => c * x i := by
  obtain ⟨d, f, hd, hf⟩ := a
  refine ⟨d, fun j => c * f j, hd, fun i => ?_⟩
  rw [sumR_congr (g := fun j => c * (f j * R j i)) n fun j _ => Int.mul_assoc .., sumR_mul, ← hf, ← Int.mul_assoc, Int.mul_comm d c, Int.mul_assoc]
theorem InG.div {c : Int} (hc : c ≠ 0) (a : InG n R fun i => c * x i) : InG n R x := by
  obtain ⟨d, f, hd, hf⟩ := a
  exact ⟨d * c, f, Int.mul_ne_zero hd hc, fun i => by rw [Int.mul_assoc]; exact hf i⟩
theorem InG.sum {f : Nat → Nat → Int} : ∀ k, (∀ j, j < k → InG n R (f j)) → InG n R fun i => sumR k fun j => f j i
  | 0, _ => .zero
  | k + 1, h => (InG.sum k fun j hj => h j (by omega)).add (h k (by omega))
theorem InG.one {j : Nat} (h : j < n) : InG n R (R j) := ⟨1, fun k => if k = j then 1 else 0, by decide, fun i => by
  rw [sumR_one (p := j) n h fun k _ ne => by dsimp only; rw [if_neg ne, Int.zero_mul]]
  dsimp only
  rw [if_pos rfl]⟩
theorem InG.trans (a : InG n R x) (h : ∀ j, j < n → InG m T (R j)) : InG m T x := by
  obtain ⟨d, f, hd, hf⟩ := a
  refine InG.div hd ?_
  rw [show (fun i => d * x i) = fun i => sumR n fun j => f j * R j i from funext hf]
  exact InG.sum (f := fun j i => f j * R j i) n fun j hj => (h j hj).smul (f j)
end
section
variable {bs : List LRow} {x y : Nat → Int}
theorem rw0_left {q : LRow} {j : Nat} (h : j < bs.length) : rw0 (bs ++ [q]) j = rw0 bs j := by
  unfold rw0
  rw [List.getD_eq_getElem?_getD, List.getD_eq_getElem?_getD, List.getElem?_append_left h]
theorem rw0_last {q : LRow} : rw0 (bs ++ [q]) bs.length = q.2 := by
  unfold rw0
  rw [List.getD_eq_getElem?_getD, List.getElem?_append_right (Nat.le_refl _), Nat.sub_self]
  rfl
theorem pl0_left {q : LRow} {j : Nat} (h : j < bs.length) : pl0 (bs ++ [q]) j = pl0 bs j := by
  unfold pl0
  rw [List.getD_eq_getElem?_getD, List.getD_eq_getElem?_getD, List.getElem?_append_left h]
theorem pl0_last {q : LRow} : pl0 (bs ++ [q]) bs.length = q.1 := by
  unfold pl0
  rw [List.getD_eq_getElem?_getD, List.getElem?_append_right (Nat.le_refl _), Nat.sub_self]
  rfl
theorem InSp.more {q : LRow} (a : InSp bs x) : InSp (bs ++ [q]) x := InG.trans a fun j hj => by
  have := InG.one (n := (bs ++ [q]).length) (R := fun j => at0 (rw0 (bs ++ [q]) j)) (j := j) (by rw [List.length_append]; exact Nat.lt_add_right _ hj)
  rwa [rw0_left hj] at this
/-- rows with places: of length m, 0 at the places of earlier ones -/
structure Tri (m : Nat) (bs : List LRow) : Prop where
  len : ∀ j, j < bs.length → (rw0 bs j).length = m
  ne : ∀ j, j < bs.length → at0 (rw0 bs j) (pl0 bs j) ≠ 0
  z : ∀ i j, i < j → j < bs.length → at0 (rw0 bs j) (pl0 bs i) = 0
/-- a sum of such rows that is 0 at all places is 0 -/
theorem Tri.free {m : Nat} (t : Tri m bs) {f : Nat → Int} (h : ∀ j, j < bs.length → sumR bs.length (fun k => f k * at0 (rw0 bs k) (pl0 bs j)) = 0) : ∀ j, j < bs.length → f j = 0 := by
  intro j
  induction j using Nat.strongRecOn with
  | ind j ih =>
    intro hj
    have h1 := h j hj
    rw [sumR_one (p := j) bs.length hj fun i hi ne => ?_] at h1
    · rcases Int.mul_eq_zero.mp h1 with q | q
      · exact q
      · exact absurd q (t.ne j hj)
    · rcases Nat.lt_or_gt_of_ne ne with q | q
      · rw [ih i q hi, Int.zero_mul]
      · rw [t.z j i q hi, Int.mul_zero]
theorem stepL_eq {u : IL} {q : LRow} (hl : u.length = q.2.length) (hn : at0 q.2 q.1 ≠ 0) : ∃ g k e : Int, g ≠ 0 ∧ k ≠ 0 ∧ (∀ i, g * at0 (stepL u q) i = k * at0 u i - e * at0 q.2 i) ∧ at0 (stepL u q) q.1 = 0 ∧ (stepL u q).length = u.length := by
  unfold stepL
  split
  · rename_i h
    exact ⟨1, 1, 0, by decide, by decide, fun i => by rw [Int.zero_mul, Int.sub_zero], h, rfl⟩
  · have hc : ∀ i, at0 (comb (at0 q.2 q.1) (at0 u q.1) u q.2) i = at0 q.2 q.1 * at0 u i - at0 u q.1 * at0 q.2 i := fun i => at_comb hl i
    have lc := comb_len (s := at0 q.2 q.1) (t := at0 u q.1) hl
    generalize comb (at0 q.2 q.1) (at0 u q.1) u q.2 = U at hc lc
    have ep : (max ((cm U : Nat) : Int) 1) ≠ 0 := by omega
    have eU : ∀ y ∈ U, (max ((cm U : Nat) : Int) 1) ∣ y := fun y hy => by
      by_cases h0 : cm U = 0
      · rw [show max ((cm U : Nat) : Int) 1 = 1 from by omega]
        exact Int.one_dvd y
      · rw [show max ((cm U : Nat) : Int) 1 = ((cm U : Nat) : Int) from by omega]
        exact cm_dvd hy
    have ad := fun i => at_div eU ep i
    refine ⟨_, at0 q.2 q.1, at0 u q.1, ep, hn, fun i => by rw [ad, hc], ?_, by rw [divL_len, lc]⟩
    have := ad q.1
    rw [hc, Int.mul_comm (at0 u q.1), Int.sub_self] at this
    rcases Int.mul_eq_zero.mp this with h | h
    · exact absurd h ep
    · exact h
/-- what the law's lowering comes to -/
theorem lowL_eq {m : Nat} (t : Tri m bs) {v : IL} (hv : v.length = m) : ∀ n, n ≤ bs.length → ((bs.take n).foldl stepL v).length = m ∧ (∀ j, j < n → at0 ((bs.take n).foldl stepL v) (pl0 bs j) = 0) ∧
    ∃ (k d : Int) (f : Nat → Int), k ≠ 0 ∧ d ≠ 0 ∧ ∀ i, k * at0 ((bs.take n).foldl stepL v) i = d * at0 v i - sumR n fun j => f j * at0 (rw0 bs j) i
  | 0, _ => by
    rw [List.take_zero]
    exact ⟨hv, fun j h => absurd h (Nat.not_lt_zero _), 1, 1, fun _ => 0, by decide, by decide, fun i => by show _ = _ - (0 : Int); rw [Int.sub_zero]; rfl⟩
  | n + 1, h => by
    obtain ⟨l1, z1, k, d, f, hk, hd, e1⟩ := lowL_eq t hv n (by omega)
    have eb := List.getElem?_eq_getElem (show n < bs.length by omega)
    have er : rw0 bs n = (bs[n]).2 := by unfold rw0; rw [List.getD_eq_getElem?_getD, eb]; rfl
    have ep : pl0 bs n = (bs[n]).1 := by unfold pl0; rw [List.getD_eq_getElem?_getD, eb]; rfl
    rw [List.take_succ, eb]
    show (List.foldl stepL v (bs.take n ++ [bs[n]])).length = m ∧ (∀ j, j < n + 1 → at0 (List.foldl stepL v (bs.take n ++ [bs[n]])) (pl0 bs j) = 0) ∧ ∃ (k d : Int) (f : Nat → Int), k ≠ 0 ∧ d ≠ 0 ∧ ∀ i, k * at0 (List.foldl stepL v (bs.take n ++ [bs[n]])) i = _
    rw [List.foldl_append]
    show (stepL _ bs[n]).length = m ∧ (∀ j, j < n + 1 → at0 (stepL _ bs[n]) (pl0 bs j) = 0) ∧ ∃ (k d : Int) (f : Nat → Int), k ≠ 0 ∧ d ≠ 0 ∧ ∀ i, k * at0 (stepL _ bs[n]) i = _
    generalize (bs.take n).foldl stepL v = u at l1 z1 e1
    have ln := t.len n (by omega)
    have nn := t.ne n (by omega)
    rw [er, ep] at nn
    obtain ⟨g, k2, e2, hg, hk2, s1, s2, s3⟩ := stepL_eq (u := u) (q := bs[n]) (by rw [l1, ← er, ln]) nn
    refine ⟨by rw [s3, l1], fun j hj => ?_, g * k, k2 * d, fun j => if j = n then k * e2 else k2 * f j, Int.mul_ne_zero hg hk, Int.mul_ne_zero hk2 hd, fun i => ?_⟩
    · by_cases e : j = n
      · subst e
        rw [ep]
        exact s2
      · have := s1 (pl0 bs j)
        rw [z1 j (by omega), ← er, t.z j n (by omega) (by omega), Int.mul_zero, Int.mul_zero] at this
        rcases Int.mul_eq_zero.mp (this.trans (Int.sub_self 0)) with h | h
        · exact absurd h hg
        · exact h
    · have h1 : g * k * at0 (stepL u bs[n]) i = k2 * (k * at0 u i) - k * e2 * at0 (rw0 bs n) i := by
        rw [Int.mul_comm g k, Int.mul_assoc, s1, Int.mul_sub, er, ← Int.mul_assoc, ← Int.mul_assoc, ← Int.mul_assoc, Int.mul_comm k k2]
      rw [h1, e1]
      rw [sumR_succ]
      dsimp only
      rw [if_pos rfl, sumR_congr (f := fun j => (if j = n then k * e2 else k2 * f j) * at0 (rw0 bs j) i) (g := fun j => k2 * (f j * at0 (rw0 bs j) i)) n fun j hj => by rw [if_neg (by omega), Int.mul_assoc], sumR_mul, Int.mul_sub, Int.mul_assoc k2 d (at0 v i)]
      omega
end
section
variable {m : Nat} {S : List IL}
/-- the law's basis: rows with places, all put in lie in its span -/
theorem basis_tri (hS : ∀ s ∈ S, s.length = m) : Tri m (basisL S) ∧ (∀ s ∈ S, InSp (basisL S) (at0 s)) ∧ ∀ j, j < (basisL S).length → InG S.length (fun t => at0 (S.getD t [])) (at0 (rw0 (basisL S) j)) := by
  have key : ∀ n, n ≤ S.length → Tri m (basisL (S.take n)) ∧ (∀ s ∈ S.take n, InSp (basisL (S.take n)) (at0 s)) ∧ ∀ j, j < (basisL (S.take n)).length → InG n (fun t => at0 (S.getD t [])) (at0 (rw0 (basisL (S.take n)) j)) := by
    intro n
    induction n with
    | zero =>
      intro _
      rw [List.take_zero]
      exact ⟨⟨fun j h => absurd h (Nat.not_lt_zero _), fun j h => absurd h (Nat.not_lt_zero _), fun i j _ h => absurd h (Nat.not_lt_zero _)⟩, fun s h => (nomatch h), fun j h => absurd h (Nat.not_lt_zero _)⟩
    | succ n ih =>
      intro hn
      obtain ⟨t, sp, ps⟩ := ih (by omega)
      have ev := List.getElem?_eq_getElem (show n < S.length by omega)
      have vm := hS _ (List.mem_of_getElem? ev)
      have gd : S.getD n [] = S[n] := by rw [List.getD_eq_getElem?_getD, ev]; rfl
      generalize S[n] = v at ev vm gd
      rw [List.take_succ, ev]
      show Tri m (basisL (S.take n ++ [v])) ∧ (∀ s ∈ S.take n ++ [v], InSp (basisL (S.take n ++ [v])) (at0 s)) ∧ ∀ j, j < (basisL (S.take n ++ [v])).length → InG (n + 1) (fun t => at0 (S.getD t [])) (at0 (rw0 (basisL (S.take n ++ [v])) j))
      have eb : basisL (S.take n ++ [v]) = addL (basisL (S.take n)) v := by unfold basisL; rw [List.foldl_append]; rfl
      rw [eb]
      generalize basisL (S.take n) = bs at t sp ps
      have ps1 : ∀ j, j < bs.length → InG (n + 1) (fun t => at0 (S.getD t [])) (at0 (rw0 bs j)) := fun j hj => (ps j hj).trans fun k hk => InG.one (R := fun t => at0 (S.getD t [])) (by omega)
      obtain ⟨l1, z1, k, d, f, hk, hd, e1⟩ := lowL_eq t vm bs.length (Nat.le_refl _)
      rw [List.take_length] at l1 z1 e1
      change (lowL bs v).length = m at l1
      change ∀ j, j < bs.length → at0 (lowL bs v) (pl0 bs j) = 0 at z1
      change ∀ i, k * at0 (lowL bs v) i = _ at e1
      unfold addL
      have pm : ∀ {i}, i ∈ piv (lowL bs v) ↔ i < (lowL bs v).length ∧ at0 (lowL bs v) i ≠ 0 := by
        intro i
        unfold piv
        rw [List.mem_filter, List.mem_range, decide_eq_true_eq]
      cases hp : piv (lowL bs v) with
      | nil =>
        dsimp only
        refine ⟨t, fun s hs => ?_, ps1⟩
        rcases List.mem_append.mp hs with h | h
        · exact sp s h
        · obtain rfl := List.mem_singleton.mp h
          refine ⟨d, f, hd, fun i => ?_⟩
          have : at0 (lowL bs s) i = 0 := by
            by_cases hi : i < (lowL bs s).length
            · by_cases e : at0 (lowL bs s) i = 0
              · exact e
              · have := pm.mpr ⟨hi, e⟩
                rw [hp] at this
                cases this
            · unfold at0
              rw [List.getD_eq_getElem?_getD, List.getElem?_eq_none (by omega)]
              rfl
          have h3 := e1 i
          rw [this, Int.mul_zero] at h3
          show d * at0 s i = sumR bs.length fun j => f j * at0 (rw0 bs j) i
          omega
      | cons p qs =>
        dsimp only
        have hpm : p ∈ piv (lowL bs v) := by rw [hp]; exact List.mem_cons_self ..
        obtain ⟨p1, p2⟩ := pm.mp hpm
        have lh : (bs ++ [(p, lowL bs v)]).length = bs.length + 1 := by rw [List.length_append]; rfl
        refine ⟨⟨fun j hj => ?_, fun j hj => ?_, fun i j hij hj => ?_⟩, fun s hs => ?_, fun j hj => ?_⟩
        · by_cases e : j = bs.length
          · subst e; rw [rw0_last]; exact l1
          · rw [rw0_left (by omega)]; exact t.len j (by omega)
        · by_cases e : j = bs.length
          · subst e; rw [rw0_last, pl0_last]; exact p2
          · rw [rw0_left (by omega), pl0_left (by omega)]; exact t.ne j (by omega)
        · by_cases e : j = bs.length
          · subst e
            rw [rw0_last, pl0_left hij]
            exact z1 i hij
          · rw [rw0_left (by omega), pl0_left (by omega)]
            exact t.z i j hij (by omega)
        · rcases List.mem_append.mp hs with h | h
          · exact (sp s h).more
          · obtain rfl := List.mem_singleton.mp h
            refine ⟨d, fun j => if j < bs.length then f j else k, hd, fun i => ?_⟩
            rw [lh]
            rw [sumR_succ]
            dsimp only
            rw [if_neg (Nat.lt_irrefl _), rw0_last, sumR_congr (g := fun j => f j * at0 (rw0 bs j) i) bs.length fun j hj => by rw [if_pos hj, rw0_left hj], e1]
            omega
        · by_cases e : j = bs.length
          · subst e
            rw [rw0_last]
            refine InG.div hk ?_
            rw [show (fun i => k * at0 (lowL bs v) i) = fun i => d * at0 v i + -1 * (sumR bs.length fun j => f j * at0 (rw0 bs j) i) from funext fun i => by rw [e1]; omega]
            have v1 : InG (n + 1) (fun t => at0 (S.getD t [])) (at0 v) := gd ▸ InG.one (R := fun t => at0 (S.getD t [])) (Nat.lt_succ_self n)
            exact (v1.smul d).add ((InG.sum (f := fun j i => f j * at0 (rw0 bs j) i) _ fun j hj => (ps1 j hj).smul (f j)).smul (-1))
          · rw [rw0_left (by omega)]
            exact ps1 j (by omega)
  have := key S.length (Nat.le_refl _)
  rwa [List.take_length] at this
/-- lowered to nothing: a multiple is a sum of the rows of the basis; and the other way round -/
theorem low_sp (hS : ∀ s ∈ S, s.length = m) {v : IL} (hv : v.length = m) : (∀ i, at0 (lowL (basisL S) v) i = 0) ↔ InG S.length (fun t => at0 (S.getD t [])) (at0 v) := by
  obtain ⟨t, sp, ps⟩ := basis_tri hS
  generalize basisL S = bs at t sp ps
  obtain ⟨l1, z1, k, d, f, hk, hd, e1⟩ := lowL_eq t hv bs.length (Nat.le_refl _)
  rw [List.take_length] at l1 z1 e1
  change ∀ j, j < bs.length → at0 (lowL bs v) (pl0 bs j) = 0 at z1
  change ∀ i, k * at0 (lowL bs v) i = _ at e1
  constructor
  · intro h
    refine InG.trans (n := bs.length) (R := fun j => at0 (rw0 bs j)) ⟨d, f, hd, fun i => ?_⟩ ps
    have := e1 i
    rw [h, Int.mul_zero] at this
    show d * at0 v i = sumR bs.length fun j => f j * at0 (rw0 bs j) i
    omega
  · intro inS
    obtain ⟨d2, f2, hd2, e2⟩ := inS.trans (m := bs.length) (T := fun j => at0 (rw0 bs j)) fun j hj => by
      have ej := List.getElem?_eq_getElem hj
      rw [show S.getD j [] = S[j] from by rw [List.getD_eq_getElem?_getD, ej]; rfl]
      exact sp _ (List.mem_of_getElem? ej)
    have e3 : ∀ i, d2 * k * at0 (lowL bs v) i = sumR bs.length fun j => (d * f2 j - d2 * f j) * at0 (rw0 bs j) i := fun i => by
      rw [sumR_congr (g := fun j => d * (f2 j * at0 (rw0 bs j) i) - d2 * (f j * at0 (rw0 bs j) i)) bs.length fun j _ => by rw [Int.sub_mul, Int.mul_assoc, Int.mul_assoc], sumR_lin, ← e2, Int.mul_assoc, e1, Int.mul_sub, ← Int.mul_assoc, ← Int.mul_assoc, Int.mul_comm d d2]
    have fr := t.free (f := fun j => d * f2 j - d2 * f j) fun j hj => by
      rw [← e3, z1 j hj, Int.mul_zero]
    intro i
    have := e3 i
    rw [sumR_zero bs.length fun j hj => by rw [fr j hj, Int.zero_mul]] at this
    rcases Int.mul_eq_zero.mp this with h | h
    · exact absurd h (Int.mul_ne_zero hd2 hk)
    · exact h
end
end GX

set_option Elab.async false
set_option linter.all false
set_option maxRecDepth 100000
set_option maxHeartbeats 4000000
/-! ### the echelon form, rows that are 0 with all -/
namespace GX
def nl (w : Nat) (c : Nat → Int) (r : IL) : Int := sumR w fun i => c i * at0 r i
def clr (p : Nat) (hd r : IL) : IL := if 0 < cm (comb (at0 hd p) (at0 r p) r hd) then divL ((cm (comb (at0 hd p) (at0 r p) r hd) : Nat) : Int) (comb (at0 hd p) (at0 r p) r hd) else comb (at0 hd p) (at0 r p) r hd
def fstNZ (r : IL) : Int := (r.filter fun x => decide (x ≠ 0)).headD 0
def prim (r : IL) : IL := if cm r = 0 then r else divL (if fstNZ r < 0 then -((cm r : Nat) : Int) else ((cm r : Nat) : Int)) r
def echS (st : List IL × List LRow) (p : Nat) : List IL × List LRow := match st.1.filter (fun r => decide (at0 r p ≠ 0)) with
  | [] => st
  | hd :: _ => ((st.1.filter fun r => decide (r ≠ hd)).map (clr p hd), st.2.map (fun q => (q.1, clr p hd q.2)) ++ [(p, prim hd)])
def eB (k : Nat) : Nat := 126 * 2 ^ k - 1
theorem eB_succ (k : Nat) : eB k + eB k + 1 = eB (k + 1) := by
  unfold eB
  have : 0 < 2 ^ k := Nat.pow_pos (by decide)
  rw [Nat.pow_succ]
  omega
theorem eB_up (k : Nat) : eB k ≤ eB (k + 1) := by rw [← eB_succ]; omega
section
variable {w p : Nat} {hd r : IL} {c : Nat → Int}
theorem dvd_cm (U : IL) : ∀ y ∈ U, ((cm U : Nat) : Int) ∣ y := fun y hy => cm_dvd hy
theorem clr_eq (hl : r.length = hd.length) : ∃ g : Int, g ≠ 0 ∧ (∀ i, g * at0 (clr p hd r) i = at0 hd p * at0 r i - at0 r p * at0 hd i) := by
  unfold clr
  have hc : ∀ i, at0 (comb (at0 hd p) (at0 r p) r hd) i = at0 hd p * at0 r i - at0 r p * at0 hd i := fun i => at_comb hl i
  generalize comb (at0 hd p) (at0 r p) r hd = U at hc
  split
  · rename_i h0
    exact ⟨((cm U : Nat) : Int), by omega, fun i => by rw [at_div (dvd_cm U) (by omega), hc]⟩
  · exact ⟨1, by decide, fun i => by rw [Int.one_mul, hc]⟩
theorem clr_len (hl : r.length = hd.length) : (clr p hd r).length = r.length := by
  unfold clr
  split
  · rw [divL_len, comb_len hl]
  · rw [comb_len hl]
theorem clr_bits {k : Nat} (bh : Bits (eB k) hd) (br : Bits (eB k) r) : Bits (eB (k + 1)) (clr p hd r) := by
  have : Bits (eB (k + 1)) (comb (at0 hd p) (at0 r p) r hd) := by
    rw [← eB_succ]
    exact Bits.comb (bh.at p) (br.at p) br bh
  unfold clr
  split
  · exact this.div (dvd_cm _) (by omega)
  · exact this
theorem clr_nl (hl : r.length = hd.length) (hp : at0 hd p ≠ 0) (h0 : nl w c hd = 0) : nl w c (clr p hd r) = 0 ↔ nl w c r = 0 := by
  obtain ⟨g, hg, e⟩ := clr_eq (p := p) hl
  have h1 : g * nl w c (clr p hd r) = at0 hd p * nl w c r - at0 r p * nl w c hd := by
    unfold nl
    rw [← sumR_mul, ← sumR_lin]
    refine sumR_congr _ fun i _ => ?_
    rw [← Int.mul_assoc, Int.mul_comm g, Int.mul_assoc, e, Int.mul_sub, ← Int.mul_assoc, ← Int.mul_assoc, ← Int.mul_assoc, ← Int.mul_assoc, Int.mul_comm (c i), Int.mul_comm (c i)]
  rw [h0, Int.mul_zero, Int.sub_zero] at h1
  constructor
  · intro h
    rw [h, Int.mul_zero] at h1
    rcases Int.mul_eq_zero.mp h1.symm with q | q
    · exact absurd q hp
    · exact q
  · intro h
    rw [h, Int.mul_zero] at h1
    rcases Int.mul_eq_zero.mp h1 with q | q
    · exact absurd q hg
    · exact q
theorem prim_eq (r : IL) : ∃ d : Int, d ≠ 0 ∧ ∀ i, d * at0 (prim r) i = at0 r i := by
  unfold prim
  split
  · exact ⟨1, by decide, fun i => Int.one_mul _⟩
  · split
    · exact ⟨_, by omega, fun i => at_div (fun y hy => Int.neg_dvd.mpr (dvd_cm r y hy)) (by omega) i⟩
    · exact ⟨_, by omega, fun i => at_div (dvd_cm r) (by omega) i⟩
theorem prim_len : (prim r).length = r.length := by
  unfold prim
  split
  · rfl
  · exact divL_len _ _
theorem prim_bits {k : Nat} (h : Bits k r) : Bits k (prim r) := by
  unfold prim
  split
  · exact h
  · split
    · exact h.div (fun y hy => Int.neg_dvd.mpr (dvd_cm r y hy)) (by omega)
    · exact h.div (dvd_cm r) (by omega)
theorem prim_nl : nl w c (prim r) = 0 ↔ nl w c r = 0 := by
  obtain ⟨d, hd, e⟩ := prim_eq r
  have h1 : d * nl w c (prim r) = nl w c r := by
    unfold nl
    rw [← sumR_mul]
    refine sumR_congr _ fun i _ => ?_
    rw [← Int.mul_assoc, Int.mul_comm d, Int.mul_assoc, e]
  constructor
  · intro h
    rw [← h1, h, Int.mul_zero]
  · intro h
    rw [h] at h1
    rcases Int.mul_eq_zero.mp h1 with q | q
    · exact absurd q hd
    · exact q
theorem prim_zero {i : Nat} : at0 (prim r) i = 0 ↔ at0 r i = 0 := by
  obtain ⟨d, hd, e⟩ := prim_eq r
  rw [← e i]
  exact ⟨fun h => by rw [h, Int.mul_zero], fun h => (Int.mul_eq_zero.mp h).resolve_left hd⟩
theorem fst_at : ∀ (r : IL) (q : Nat), (∀ i, i < q → at0 r i = 0) → at0 r q ≠ 0 → fstNZ r = at0 r q
  | [], q, _, h => absurd rfl h
  | x :: r, 0, _, h => by
    have : x ≠ 0 := h
    unfold fstNZ
    rw [List.filter_cons_of_pos (by simpa using this)]
    rfl
  | x :: r, q + 1, z, h => by
    have : x = 0 := z 0 (by omega)
    have ih := fst_at r q (fun i hi => z (i + 1) (by omega)) h
    unfold fstNZ at ih ⊢
    rw [List.filter_cons_of_neg (by simpa using this)]
    exact ih
theorem at_mem {q : Nat} (h : at0 r q ≠ 0) : at0 r q ∈ r := by
  unfold at0 at h ⊢
  rw [List.getD_eq_getElem?_getD] at h ⊢
  cases e : r[q]? with
  | none => rw [e] at h; exact absurd rfl h
  | some x => exact List.mem_of_getElem? e
theorem prim_pos {q : Nat} (z : ∀ i, i < q → at0 r i = 0) (h : at0 r q ≠ 0) : 0 < at0 (prim r) q := by
  have cp := cm_pos (at_mem h) h
  have ef := fst_at r q z h
  unfold prim
  rw [if_neg (by omega), ef]
  split
  · have := at_div (fun y hy => Int.neg_dvd.mpr (dvd_cm r y hy)) (show -((cm r : Nat) : Int) ≠ 0 by omega) q
    generalize at0 (divL _ r) q = k at this ⊢
    rcases Int.lt_or_le 0 k with g | g
    · exact g
    · have : 0 ≤ -((cm r : Nat) : Int) * k := by
        rw [Int.neg_mul, ← Int.mul_neg]
        exact Int.mul_nonneg (by omega) (by omega)
      omega
  · have := at_div (dvd_cm r) (show ((cm r : Nat) : Int) ≠ 0 by omega) q
    generalize at0 (divL _ r) q = k at this ⊢
    rcases Int.lt_or_le 0 k with g | g
    · exact g
    · have : 0 ≤ ((cm r : Nat) : Int) * -k := Int.mul_nonneg (by omega) (by omega)
      rw [Int.mul_neg] at this
      omega
end
/-- the form behind the places below p -/
structure Ech (w : Nat) (A : List IL) (p : Nat) (st : List IL × List LRow) : Prop where
  lL : ∀ r ∈ st.1, r.length = w
  lF : ∀ q ∈ st.2, q.2.length = w
  zL : ∀ r ∈ st.1, ∀ i, i < p → at0 r i = 0
  lt : ∀ q ∈ st.2, q.1 < p
  ne : ∀ q ∈ st.2, at0 q.2 q.1 ≠ 0 ∧ ∀ i, i < q.1 → at0 q.2 i = 0
  pw : st.2.Pairwise fun a b => at0 a.2 b.1 = 0 ∧ at0 b.2 a.1 = 0 ∧ a.1 < b.1
  null : ∀ c : Nat → Int, (∀ a ∈ A, nl w c a = 0) ↔ (∀ r ∈ st.1, nl w c r = 0) ∧ ∀ q ∈ st.2, nl w c q.2 = 0
  bL : ∀ r ∈ st.1, Bits (eB st.2.length) r
  bF : ∀ q ∈ st.2, Bits (eB st.2.length) q.2
  fewL : st.1.length ≤ A.length
  fewF : st.2.length ≤ p
section
variable {w p : Nat} {A : List IL} {st : List IL × List LRow}
theorem Ech.start (h : ∀ a ∈ A, a.length = w) (b : ∀ a ∈ A, Bits 125 a) : Ech w A 0 (A, []) :=
  ⟨h, fun q h => (nomatch h), fun r _ i h => absurd h (Nat.not_lt_zero _), fun q h => (nomatch h), fun q h => (nomatch h), .nil, fun c => ⟨fun h => ⟨h, fun q h => (nomatch h)⟩, fun h => h.1⟩, b, fun q h => (nomatch h), Nat.le_refl _, Nat.le_refl _⟩
theorem Ech.step (o : Ech w A p st) : Ech w A (p + 1) (echS st p) := by
  unfold echS
  obtain ⟨left, bs⟩ := st
  obtain ⟨lL, lF, zL, lt, ne, pw, null, bL, bF, fewL, fewF⟩ := o
  dsimp only at *
  cases e : left.filter (fun r => decide (at0 r p ≠ 0)) with
  | nil =>
    refine ⟨lL, lF, fun r hr i hi => ?_, fun q hq => Nat.lt_succ_of_lt (lt q hq), ne, pw, null, bL, bF, fewL, Nat.le_succ_of_le fewF⟩
    by_cases ei : i = p
    · subst ei
      by_cases z : at0 r i = 0
      · exact z
      · have : r ∈ left.filter (fun r => decide (at0 r i ≠ 0)) := List.mem_filter.mpr ⟨hr, decide_eq_true z⟩
        rw [e] at this
        cases this
    · exact zL r hr i (by omega)
  | cons hd tl =>
    have hm : hd ∈ left.filter (fun r => decide (at0 r p ≠ 0)) := by rw [e]; exact List.mem_cons_self ..
    obtain ⟨hm, hp⟩ := List.mem_filter.mp hm
    have hp : at0 hd p ≠ 0 := of_decide_eq_true hp
    have lh := lL hd hm
    have zh := zL hd hm
    have bh := bL hd hm
    have le : (bs.map (fun q => (q.1, clr p hd q.2)) ++ [(p, prim hd)]).length = bs.length + 1 := by rw [List.length_append, List.length_map]; rfl
    have ec : ∀ r : IL, r.length = w → ∃ g : Int, g ≠ 0 ∧ (∀ i, g * at0 (clr p hd r) i = at0 hd p * at0 r i - at0 r p * at0 hd i) := fun r hr => clr_eq (hr.trans lh.symm)
    have zc : ∀ r : IL, r.length = w → ∀ i, at0 hd p * at0 r i - at0 r p * at0 hd i = 0 → at0 (clr p hd r) i = 0 := fun r hr i h => by
      obtain ⟨g, hg, e⟩ := ec r hr
      rw [← e] at h
      exact (Int.mul_eq_zero.mp h).resolve_left hg
    have zp : ∀ r : IL, r.length = w → at0 (clr p hd r) p = 0 := fun r hr => zc r hr p (by rw [Int.mul_comm]; exact Int.sub_self _)
    have zi : ∀ r : IL, r.length = w → ∀ i, i < p → at0 r i = 0 → at0 (clr p hd r) i = 0 := fun r hr i hi z => zc r hr i (by rw [z, zh i hi, Int.mul_zero, Int.mul_zero]; rfl)
    refine ⟨fun r hr => ?_, fun q hq => ?_, fun r hr i hi => ?_, fun q hq => ?_, fun q hq => ?_, ?_, fun c => ?_, fun r hr => ?_, fun q hq => ?_, ?_, ?_⟩
    · obtain ⟨r, h, rfl⟩ := List.mem_map.mp hr
      have := lL r (List.mem_filter.mp h).1
      rw [clr_len (this.trans lh.symm), this]
    · rcases List.mem_append.mp hq with h | h
      · obtain ⟨q, h2', rfl⟩ := List.mem_map.mp h
        have := lF q h2'
        dsimp only
        rw [clr_len (this.trans lh.symm), this]
      · rw [List.mem_singleton.mp h]
        exact prim_len.trans lh
    · obtain ⟨r, h, rfl⟩ := List.mem_map.mp hr
      have hr2 := (List.mem_filter.mp h).1
      by_cases ei : i = p
      · subst ei
        exact zp r (lL r hr2)
      · exact zi r (lL r hr2) i (by omega) (zL r hr2 i (by omega))
    · rcases List.mem_append.mp hq with h | h
      · obtain ⟨q, h2', rfl⟩ := List.mem_map.mp h
        exact Nat.lt_succ_of_lt (lt q h2')
      · rw [List.mem_singleton.mp h]
        exact Nat.lt_succ_self p
    · rcases List.mem_append.mp hq with h | h
      · obtain ⟨q, h2', rfl⟩ := List.mem_map.mp h
        have lq := lt q h2'
        obtain ⟨n1, n2⟩ := ne q h2'
        refine ⟨fun z => ?_, fun i hi => zi q.2 (lF q h2') i (by dsimp only at hi; omega) (n2 i hi)⟩
        obtain ⟨g, hg, e⟩ := ec q.2 (lF q h2')
        have := e q.1
        dsimp only at z
        rw [z, zh q.1 lq, Int.mul_zero, Int.mul_zero, Int.sub_zero] at this
        exact Int.mul_ne_zero hp n1 this.symm
      · rw [List.mem_singleton.mp h]
        exact ⟨fun z => hp (prim_zero.mp z), fun i hi => prim_zero.mpr (zh i hi)⟩
    · rw [List.pairwise_append]
      refine ⟨?_, List.pairwise_singleton .., fun a ha b hb => ?_⟩
      · rw [List.pairwise_map]
        refine List.Pairwise.imp_of_mem (fun {a b} ma mb h => ?_) pw
        exact ⟨zi a.2 (lF a ma) _ (lt b mb) h.1, zi b.2 (lF b mb) _ (lt a ma) h.2.1, h.2.2⟩
      · rw [List.mem_singleton.mp hb]
        obtain ⟨q, h2', rfl⟩ := List.mem_map.mp ha
        exact ⟨zp q.2 (lF q h2'), prim_zero.mpr (zh q.1 (lt q h2')), lt q h2'⟩
    · rw [null c]
      constructor
      · rintro ⟨h1, h2⟩
        have h0 := h1 hd hm
        refine ⟨fun r hr => ?_, fun q hq => ?_⟩
        · obtain ⟨r, h, rfl⟩ := List.mem_map.mp hr
          have hr2 := (List.mem_filter.mp h).1
          exact (clr_nl ((lL r hr2).trans lh.symm) hp h0).mpr (h1 r hr2)
        · rcases List.mem_append.mp hq with h | h
          · obtain ⟨q, h2', rfl⟩ := List.mem_map.mp h
            exact (clr_nl ((lF q h2').trans lh.symm) hp h0).mpr (h2 q h2')
          · rw [List.mem_singleton.mp h]
            exact prim_nl.mpr h0
      · rintro ⟨h1, h2⟩
        have h0 : nl w c hd = 0 := prim_nl.mp (h2 (p, prim hd) (List.mem_append_right _ (List.mem_singleton.mpr rfl)))
        refine ⟨fun r hr => ?_, fun q hq => ?_⟩
        · by_cases e : r = hd
          · rw [e]; exact h0
          · exact (clr_nl ((lL r hr).trans lh.symm) hp h0).mp (h1 _ (List.mem_map_of_mem (List.mem_filter.mpr ⟨hr, decide_eq_true e⟩)))
        · exact (clr_nl ((lF q hq).trans lh.symm) hp h0).mp (h2 (q.1, clr p hd q.2) (List.mem_append_left _ (List.mem_map.mpr ⟨q, hq, rfl⟩)))
    · obtain ⟨r, h, rfl⟩ := List.mem_map.mp hr
      rw [le]
      exact clr_bits bh (bL r (List.mem_filter.mp h).1)
    · rw [le]
      rcases List.mem_append.mp hq with h | h
      · obtain ⟨q, h2', rfl⟩ := List.mem_map.mp h
        exact clr_bits bh (bF q h2')
      · rw [List.mem_singleton.mp h]
        exact (prim_bits bh).up (eB_up _)
    · rw [List.length_map]
      exact Nat.le_trans (List.length_filter_le _ _) fewL
    · rw [le]
      omega
end
/-- the rows told, with their places -/
def echA (w : Nat) (A : List IL) : List LRow := ((List.range w).foldl echS (A, [])).2.map fun q => (q.1, prim q.2)
structure Lead (w : Nat) (A : List IL) (ld : List LRow) : Prop where
  len : ∀ q ∈ ld, q.2.length = w
  lt : ∀ q ∈ ld, q.1 < w
  pos : ∀ q ∈ ld, 0 < at0 q.2 q.1 ∧ ∀ i, i < q.1 → at0 q.2 i = 0
  pw : ld.Pairwise fun a b => at0 a.2 b.1 = 0 ∧ at0 b.2 a.1 = 0 ∧ a.1 < b.1
  null : ∀ c : Nat → Int, (∀ a ∈ A, nl w c a = 0) ↔ ∀ q ∈ ld, nl w c q.2 = 0
  bits : ∀ q ∈ ld, Bits (eB ld.length) q.2
theorem Ech.all {w : Nat} {A : List IL} (h : ∀ a ∈ A, a.length = w) (b : ∀ a ∈ A, Bits 125 a) : ∀ n, Ech w A n ((List.range n).foldl echS (A, []))
  | 0 => Ech.start h b
  | n + 1 => by
    rw [List.range_succ, List.foldl_append]
    exact (Ech.all h b n).step
theorem lead_ok {w : Nat} {A : List IL} (h : ∀ a ∈ A, a.length = w) (b : ∀ a ∈ A, Bits 125 a) : Lead w A (echA w A) := by
  have o := Ech.all h b w
  unfold echA
  obtain ⟨lL, lF, zL, lt, ne, pw, null, bL, bF, fewL, fewF⟩ := o
  generalize (List.range w).foldl echS (A, []) = st at *
  have mm : ∀ {q : LRow}, q ∈ st.2.map (fun q => (q.1, prim q.2)) → ∃ q' ∈ st.2, q = (q'.1, prim q'.2) := fun h => by
    obtain ⟨q', h2, e⟩ := List.mem_map.mp h
    exact ⟨q', h2, e.symm⟩
  refine ⟨fun q hq => ?_, fun q hq => ?_, fun q hq => ?_, ?_, fun c => ?_, fun q hq => ?_⟩
  · obtain ⟨q, hq2, rfl⟩ := mm hq
    exact prim_len.trans (lF q hq2)
  · obtain ⟨q, hq2, rfl⟩ := mm hq
    exact lt q hq2
  · obtain ⟨q, hq2, rfl⟩ := mm hq
    exact ⟨prim_pos (ne q hq2).2 (ne q hq2).1, fun i hi => prim_zero.mpr ((ne q hq2).2 i hi)⟩
  · rw [List.pairwise_map]
    exact pw.imp fun h => ⟨prim_zero.mpr h.1, prim_zero.mpr h.2.1, h.2.2⟩
  · rw [null c]
    constructor
    · rintro ⟨_, h2⟩ q hq
      obtain ⟨q, hq2, rfl⟩ := mm hq
      exact prim_nl.mpr (h2 q hq2)
    · intro h2
      refine ⟨fun r hr => sumR_zero _ fun i hi => by rw [zL r hr i hi, Int.mul_zero], fun q hq => ?_⟩
      exact prim_nl.mp (h2 (q.1, prim q.2) (List.mem_map.mpr ⟨q, hq, rfl⟩))
  · rw [List.length_map]
    obtain ⟨q, hq2, rfl⟩ := mm hq
    exact prim_bits (bF q hq2)
end GX

set_option Elab.async false
set_option linter.all false
set_option maxRecDepth 100000
set_option maxHeartbeats 4000000
/-! ### the rows that are 0 with all -/
namespace GX
def scF (s : Int) (q : LRow) : Int := (s * at0 q.2 q.1).fdiv ((Nat.gcd s.natAbs (at0 q.2 q.1).natAbs : Nat) : Int)
def scale (ld : List LRow) : Int := ld.foldl scF 1
def vaF (place : Nat) (sc : Int) (v : IL) (q : LRow) : IL := v.set q.1 (-(at0 q.2 place) * sc.fdiv (at0 q.2 q.1))
def vals (w place : Nat) (ld : List LRow) : IL := ld.foldl (vaF place (scale ld)) ((List.replicate w 0).set place (scale ld))
def nrow (w place : Nat) (ld : List LRow) : IL := divL ((cm (vals w place ld) : Nat) : Int) (vals w place ld)
def frees (w : Nat) (ld : List LRow) : List Nat := (List.range w).filter fun i => decide (i ∉ ld.map (·.1))
def nulls (w : Nat) (A : List IL) : List IL := (frees w (echA w A)).map fun p => nrow w p (echA w A)
theorem scF_ok {s x : Int} (hs : 0 < s) (hx : 0 < x) : 0 < (s * x).fdiv ((Nat.gcd s.natAbs x.natAbs : Nat) : Int) ∧ s ∣ (s * x).fdiv ((Nat.gcd s.natAbs x.natAbs : Nat) : Int) ∧ x ∣ (s * x).fdiv ((Nat.gcd s.natAbs x.natAbs : Nat) : Int) ∧
    ((s * x).fdiv ((Nat.gcd s.natAbs x.natAbs : Nat) : Int)).natAbs ≤ (s * x).natAbs := by
  have g0 : 0 < Nat.gcd s.natAbs x.natAbs := Nat.gcd_pos_of_pos_left _ (by omega)
  have d1 : ((Nat.gcd s.natAbs x.natAbs : Nat) : Int) ∣ s := Int.ofNat_dvd_left.mpr (Nat.gcd_dvd_left _ _)
  have d2 : ((Nat.gcd s.natAbs x.natAbs : Nat) : Int) ∣ x := Int.ofNat_dvd_left.mpr (Nat.gcd_dvd_right _ _)
  generalize Nat.gcd s.natAbs x.natAbs = g at g0 d1 d2
  obtain ⟨s', e1⟩ := d1
  obtain ⟨x', e2⟩ := d2
  have gi : (g : Int) ≠ 0 := by omega
  have ef : (s * x).fdiv (g : Int) = s' * x := by
    rw [e1, Int.mul_assoc, Int.mul_fdiv_cancel_left _ gi]
  have ps : 0 < s' := by
    rcases Int.lt_or_le 0 s' with h | h
    · exact h
    · have : 0 ≤ (g : Int) * -s' := Int.mul_nonneg (by omega) (by omega)
      rw [Int.mul_neg] at this
      omega
  rw [ef]
  refine ⟨Int.mul_pos ps hx, ⟨x', ?_⟩, ⟨s', Int.mul_comm ..⟩, ?_⟩
  · rw [e2, e1, ← Int.mul_assoc, Int.mul_comm s' g]
  · rw [Int.natAbs_mul, Int.natAbs_mul]
    refine Nat.mul_le_mul ?_ (Nat.le_refl _)
    rw [e1, Int.natAbs_mul]
    exact Nat.le_mul_of_pos_left _ (by omega)
theorem scale_ok : ∀ (ld : List LRow) (s : Int), 0 < s → (∀ q ∈ ld, 0 < at0 q.2 q.1) → 0 < ld.foldl scF s ∧ s ∣ ld.foldl scF s ∧ ∀ q ∈ ld, at0 q.2 q.1 ∣ ld.foldl scF s
  | [], s, hs, _ => ⟨hs, Int.dvd_refl s, fun q h => (nomatch h)⟩
  | q :: ld, s, hs, h => by
    obtain ⟨a1, a2, a3, _⟩ := scF_ok hs (h q (List.mem_cons_self ..))
    obtain ⟨b1, b2, b3⟩ := scale_ok ld (scF s q) a1 fun q hq => h q (List.mem_cons_of_mem _ hq)
    refine ⟨b1, Int.dvd_trans a2 b2, fun q' hq => ?_⟩
    rcases List.mem_cons.mp hq with rfl | hq
    · exact Int.dvd_trans a3 b2
    · exact b3 q' hq
theorem scale_bits {k : Nat} : ∀ (ld : List LRow) (s : Int) (b : Nat), 0 < s → s.natAbs < 2 ^ b → (∀ q ∈ ld, 0 < at0 q.2 q.1 ∧ Bits k q.2) → (ld.foldl scF s).natAbs < 2 ^ (b + ld.length * k)
  | [], s, b, _, h, _ => by rw [List.length_nil, Nat.zero_mul]; exact h
  | q :: ld, s, b, hs, hb, h => by
    obtain ⟨p1, p2⟩ := h q (List.mem_cons_self ..)
    obtain ⟨a1, a2, a3, a4⟩ := scF_ok hs p1
    have hb2 : (scF s q).natAbs < 2 ^ (b + k) := by
      refine Nat.lt_of_le_of_lt a4 ?_
      rw [Int.natAbs_mul, Nat.pow_add]
      exact Nat.mul_lt_mul'' hb (p2.at q.1)
    have := scale_bits ld (scF s q) (b + k) a1 hb2 fun q hq => h q (List.mem_cons_of_mem _ hq)
    rw [List.length_cons, Nat.succ_mul]
    rw [show b + (ld.length * k + k) = b + k + ld.length * k from by omega]
    exact this
section
variable {w place : Nat} {sc : Int}
theorem at_set {v : IL} {i j : Nat} {x : Int} (h : i < v.length) : at0 (v.set i x) j = if j = i then x else at0 v j := by
  unfold at0
  rw [List.getD_eq_getElem?_getD, List.getD_eq_getElem?_getD, List.getElem?_set]
  by_cases e : i = j
  · subst e
    rw [if_pos rfl, if_pos h, if_pos rfl]
    rfl
  · rw [if_neg e, if_neg (Ne.symm e)]
theorem vaF_all : ∀ (ld : List LRow) (v : IL), v.length = w → (∀ q ∈ ld, q.1 < w) → (ld.map (·.1)).Nodup →
    (ld.foldl (vaF place sc) v).length = w ∧ (∀ i, i ∉ ld.map (·.1) → at0 (ld.foldl (vaF place sc) v) i = at0 v i) ∧
    ∀ q ∈ ld, at0 (ld.foldl (vaF place sc) v) q.1 = -(at0 q.2 place) * sc.fdiv (at0 q.2 q.1)
  | [], v, hv, _, _ => ⟨hv, fun i _ => rfl, fun q h => (nomatch h)⟩
  | q :: ld, v, hv, h, nd => by
    rw [List.map_cons, List.nodup_cons] at nd
    have hq := h q (List.mem_cons_self ..)
    obtain ⟨a1, a2, a3⟩ := vaF_all ld (vaF place sc v q) (by unfold vaF; rw [List.length_set]; exact hv) (fun q hq => h q (List.mem_cons_of_mem _ hq)) nd.2
    refine ⟨a1, fun i hi => ?_, fun q' hq' => ?_⟩
    · rw [List.map_cons, List.mem_cons] at hi
      rw [List.foldl_cons, a2 i fun m => hi (.inr m)]
      unfold vaF
      rw [at_set (by omega), if_neg fun e => hi (.inl e)]
    · rcases List.mem_cons.mp hq' with rfl | hq'
      · rw [List.foldl_cons, a2 _ nd.1]
        unfold vaF
        rw [at_set (by omega), if_pos rfl]
      · exact a3 q' hq'
end
section
variable {w p : Nat} {A : List IL} {ld : List LRow}
theorem Lead.nd (o : Lead w A ld) : (ld.map (·.1)).Nodup := by
  rw [List.nodup_iff_pairwise_ne, List.pairwise_map]
  exact o.pw.imp fun h => Nat.ne_of_lt h.2.2
theorem Lead.few (o : Lead w A ld) : ld.length ≤ w := by
  have := (List.nodup_iff_pairwise_ne.mp o.nd)
  have h2 : (ld.map (·.1)).length ≤ (List.range w).length := by
    refine len_le_of_sub o.nd fun x hx => ?_
    obtain ⟨q, hq, rfl⟩ := List.mem_map.mp hx
    exact List.mem_range.mpr (o.lt q hq)
  rwa [List.length_map, List.length_range] at h2
theorem mem_frees : p ∈ frees w ld ↔ p < w ∧ p ∉ ld.map (·.1) := by
  unfold frees
  rw [List.mem_filter, List.mem_range, decide_eq_true_eq]
theorem Lead.fewer (o : Lead w A ld) (h : p < w) (n : p ∉ ld.map (·.1)) : ld.length + 1 ≤ w := by
  have h2 : (p :: ld.map (·.1)).length ≤ (List.range w).length := by
    refine len_le_of_sub (List.nodup_cons.mpr ⟨n, o.nd⟩) fun x hx => ?_
    rcases List.mem_cons.mp hx with rfl | hx
    · exact List.mem_range.mpr h
    · obtain ⟨q, hq, rfl⟩ := List.mem_map.mp hx
      exact List.mem_range.mpr (o.lt q hq)
  rwa [List.length_cons, List.length_map, List.length_range] at h2
theorem Lead.sc (o : Lead w A ld) : 0 < scale ld ∧ ∀ q ∈ ld, at0 q.2 q.1 ∣ scale ld :=
  let ⟨a, _, c⟩ := scale_ok ld 1 (by decide) fun q hq => (o.pos q hq).1
  ⟨a, c⟩
/-- the row before it is divided -/
structure VOk (w p : Nat) (ld : List LRow) (v : IL) (sc : Int) : Prop where
  len : v.length = w
  place : at0 v p = sc
  piv : ∀ q ∈ ld, at0 v q.1 = -(at0 q.2 p) * sc.fdiv (at0 q.2 q.1)
  rest : ∀ i, i ≠ p → i ∉ ld.map (·.1) → at0 v i = 0
theorem at_rep (n i : Nat) : at0 (List.replicate n 0) i = 0 := by
  unfold at0
  rw [List.getD_eq_getElem?_getD, List.getElem?_replicate]
  split <;> rfl
theorem Lead.vok (o : Lead w A ld) (hp : p < w) (n : p ∉ ld.map (·.1)) : VOk w p ld (vals w p ld) (scale ld) := by
  unfold vals
  obtain ⟨a1, a2, a3⟩ := vaF_all (w := w) (place := p) (sc := scale ld) ld ((List.replicate w 0).set p (scale ld)) (by rw [List.length_set, List.length_replicate]) o.lt o.nd
  refine ⟨a1, ?_, a3, fun i h1 h2 => ?_⟩
  · rw [a2 p n, at_set (by rw [List.length_replicate]; exact hp), if_pos rfl]
  · rw [a2 i h2, at_set (by rw [List.length_replicate]; exact hp), if_neg h1, at_rep]
theorem Lead.other (o : Lead w A ld) {q q' : LRow} (hq : q ∈ ld) (hq' : q' ∈ ld) (ne : q ≠ q') : at0 q.2 q'.1 = 0 := by
  have key : ∀ l : List LRow, q ∈ l → q' ∈ l → l.Pairwise (fun a b => at0 a.2 b.1 = 0 ∧ at0 b.2 a.1 = 0 ∧ a.1 < b.1) → at0 q.2 q'.1 = 0 := by
    intro l
    induction l with
    | nil => intro h; cases h
    | cons x l ih =>
      intro h1 h2 pw
      rw [List.pairwise_cons] at pw
      rcases List.mem_cons.mp h1 with e1 | h3
      · rcases List.mem_cons.mp h2 with e2 | h4
        · exact absurd (e1.trans e2.symm) ne
        · exact e1 ▸ (pw.1 q' h4).1
      · rcases List.mem_cons.mp h2 with e2 | h4
        · exact e2 ▸ (pw.1 q h3).2.1
        · exact ih h3 h4 pw.2
  exact key ld hq hq' o.pw
/-- 0 with all -/
theorem Lead.vnl (o : Lead w A ld) (hp : p < w) (n : p ∉ ld.map (·.1)) : ∀ q ∈ ld, nl w (at0 (vals w p ld)) q.2 = 0 := by
  intro q hq
  have V := o.vok hp n
  have dv := o.sc.2 q hq
  generalize vals w p ld = v at V
  generalize scale ld = sc at V dv
  have qp : q.1 ≠ p := fun e => n (e ▸ List.mem_map_of_mem hq)
  have ps := (o.pos q hq).1
  unfold nl
  rw [sumR_two (p := p) (q := q.1) (Ne.symm qp) w hp (o.lt q hq) fun i hi n1 n2 => ?_]
  · rw [V.place, V.piv q hq]
    have e := fdiv_mul dv (by omega)
    generalize hk : sc.fdiv (at0 q.2 q.1) = k at e
    have key : ∀ x k a : Int, x * k * a + -a * k * x = 0 := fun x k a => by
      rw [Int.neg_mul, Int.neg_mul, Int.mul_comm a k, Int.mul_comm (k * a) x, ← Int.mul_assoc]
      omega
    rw [← e]
    exact key _ _ _
  · by_cases hm : i ∈ ld.map (·.1)
    · obtain ⟨q', hq', rfl⟩ := List.mem_map.mp hm
      have : at0 q.2 q'.1 = 0 := by
        exact o.other hq hq' fun e => n2 (by rw [e])
      rw [this, Int.mul_zero]
    · rw [V.rest i n1 hm, Int.zero_mul]
theorem cm_divL {l : IL} (h : 0 < cm l) : cm (divL ((cm l : Nat) : Int) l) = 1 := by
  have hn : ((cm l : Nat) : Int) ≠ 0 := by omega
  have h1 : cm (divL ((cm l : Nat) : Int) l) * cm l ∣ cm l := by
    refine cm_great fun x hx => ?_
    have e := fdiv_mul (cm_dvd hx) hn
    have h2 : (cm (divL ((cm l : Nat) : Int) l) : Int) ∣ x.fdiv ((cm l : Nat) : Int) := cm_dvd (List.mem_map_of_mem (f := fun x => x.fdiv ((cm l : Nat) : Int)) hx)
    refine Int.ofNat_dvd_left.mpr ?_
    rw [← e, Int.natAbs_mul, Nat.mul_comm]
    exact Nat.mul_dvd_mul (Nat.dvd_refl _) (Int.ofNat_dvd_left.mp h2)
  generalize cm (divL ((cm l : Nat) : Int) l) = a at h1 ⊢
  have : a ∣ 1 := by
    obtain ⟨k, hk⟩ := h1
    refine ⟨k, ?_⟩
    have e : cm l * 1 = cm l * (a * k) := by
      rw [Nat.mul_one]
      conv => lhs; rw [hk]
      ac_rfl
    exact Nat.eq_of_mul_eq_mul_left h e
  exact Nat.dvd_one.mp this
/-- what is told of a row -/
structure NOk (w p : Nat) (A : List IL) (ld : List LRow) (v : IL) : Prop where
  len : v.length = w
  place : 1 ≤ at0 v p
  cm : GX.cm v = 1
  rest : ∀ i, i ≠ p → i ∉ ld.map (·.1) → at0 v i = 0
  null : ∀ a ∈ A, nl w (at0 v) a = 0
  up : ∀ i, p < i → at0 v i = 0
theorem Lead.nok (o : Lead w A ld) (hp : p < w) (n : p ∉ ld.map (·.1)) : NOk w p A ld (nrow w p ld) := by
  have V := o.vok hp n
  have N := (o.null _).mpr (o.vnl hp n)
  have S := o.sc.1
  unfold nrow
  generalize vals w p ld = v at V N
  have hm : at0 v p ∈ v := at_mem (by rw [V.place]; omega)
  have cp := cm_pos hm (by rw [V.place]; omega)
  have ad := fun i => at_div (dvd_cm v) (show ((GX.cm v : Nat) : Int) ≠ 0 by omega) i
  have zz : ∀ i, at0 v i = 0 → at0 (divL ((GX.cm v : Nat) : Int) v) i = 0 := fun i h => by
    have := ad i
    rw [h] at this
    exact (Int.mul_eq_zero.mp this).resolve_left (by omega)
  refine ⟨(divL_len _ _).trans V.len, ?_, cm_divL cp, fun i h1 h2 => zz i (V.rest i h1 h2), fun a ha => ?_, fun i hi => zz i ?_⟩
  · have := ad p
    rw [V.place] at this
    generalize at0 (divL _ v) p = k at this ⊢
    rcases Int.lt_or_le 0 k with g | g
    · omega
    · have : 0 ≤ ((GX.cm v : Nat) : Int) * -k := Int.mul_nonneg (by omega) (by omega)
      rw [Int.mul_neg] at this
      omega
  · have h1 : ((GX.cm v : Nat) : Int) * nl w (at0 (divL ((GX.cm v : Nat) : Int) v)) a = nl w (at0 v) a := by
      unfold nl
      rw [← sumR_mul]
      refine sumR_congr _ fun i _ => ?_
      rw [← Int.mul_assoc, ad]
    rw [N a ha] at h1
    exact (Int.mul_eq_zero.mp h1).resolve_left (by omega)
  · by_cases hm : i ∈ ld.map (·.1)
    · obtain ⟨q, hq, rfl⟩ := List.mem_map.mp hm
      rw [V.piv q hq, (o.pos q hq).2 p hi, Int.neg_zero, Int.zero_mul]
    · exact V.rest i (by omega) hm
/-- the i-th column -/
def col (A : List IL) (i : Nat) : IL := A.map fun r => at0 r i
theorem at_col {i k : Nat} : at0 (col A i) k = at0 (A.getD k []) i := by
  unfold col
  show (A.map _).getD k 0 = _
  rw [List.getD_eq_getElem?_getD, List.getD_eq_getElem?_getD, List.getElem?_map]
  cases A[k]? with
  | none => rfl
  | some x => rfl
theorem nl_getD {c : Nat → Int} (h : ∀ a ∈ A, nl w c a = 0) (k : Nat) : nl w c (A.getD k []) = 0 := by
  rw [List.getD_eq_getElem?_getD]
  cases e : A[k]? with
  | none => exact sumR_zero w fun i _ => Int.mul_zero _
  | some x => exact h x (List.mem_of_getElem? e)
/-- a place is free just where its column depends on those ahead -/
theorem Lead.free (o : Lead w A ld) (hp : p < w) : (∀ i, at0 (lowL (basisL ((List.range p).map (col A))) (col A p)) i = 0) ↔ p ∉ ld.map (·.1) := by
  have lc : ∀ i, (col A i).length = A.length := fun i => List.length_map _
  rw [low_sp (m := A.length) (fun s hs => by obtain ⟨i, _, rfl⟩ := List.mem_map.mp hs; exact lc i) (lc p)]
  have gd : ∀ t, t < p → ((List.range p).map (col A)).getD t [] = col A t := fun t ht => by
    rw [List.getD_eq_getElem?_getD, List.getElem?_map, List.getElem?_range ht]
    rfl
  rw [List.length_map, List.length_range]
  constructor
  · rintro ⟨d, f, hd, e⟩ hm
    obtain ⟨q, hq, rfl⟩ := List.mem_map.mp hm
    let c : Nat → Int := fun i => if i < q.1 then f i else if i = q.1 then -d else 0
    have hc : ∀ a ∈ A, nl w c a = 0 := fun a ha => by
      obtain ⟨k, hk⟩ := List.getElem?_of_mem ha
      have ga : A.getD k [] = a := by rw [List.getD_eq_getElem?_getD, hk]; rfl
      have := e k
      rw [at_col, ga] at this
      unfold nl
      rw [sumR_cut (p := q.1 + 1) w hp fun i h1 h2 => by show (if i < q.1 then f i else if i = q.1 then -d else 0) * _ = 0; rw [if_neg (by omega), if_neg (by omega), Int.zero_mul], sumR_succ]
      rw [sumR_congr (g := fun j => f j * at0 ((fun t => at0 (((List.range q.1).map (col A)).getD t [])) j |> fun _ => a) j) q.1 fun i hi => by show (if i < q.1 then f i else if i = q.1 then -d else 0) * _ = _; rw [if_pos hi]]
      rw [show sumR q.1 (fun j => f j * at0 (((List.range q.1).map (col A)).getD j []) k) = sumR q.1 fun j => f j * at0 a j from sumR_congr _ fun j hj => by rw [gd j hj, at_col, ga]] at this
      show sumR q.1 (fun j => f j * at0 a j) + (if q.1 < q.1 then f q.1 else if q.1 = q.1 then -d else 0) * at0 a q.1 = 0
      rw [if_neg (Nat.lt_irrefl _), if_pos rfl, ← this, Int.neg_mul]
      omega
    have h1 := (o.null c).mp hc q hq
    obtain ⟨p1, p2⟩ := o.pos q hq
    unfold nl at h1
    rw [sumR_one (p := q.1) w hp fun i hi ne => ?_] at h1
    · rcases Int.mul_eq_zero.mp h1 with h | h
      · replace h : (if q.1 < q.1 then f q.1 else if q.1 = q.1 then -d else 0) = 0 := h
        rw [if_neg (Nat.lt_irrefl _), if_pos rfl] at h
        omega
      · omega
    · rcases Nat.lt_or_gt_of_ne ne with h | h
      · rw [p2 i h, Int.mul_zero]
      · show (if i < q.1 then f i else if i = q.1 then -d else 0) * _ = 0
        rw [if_neg (by omega), if_neg ne, Int.zero_mul]
  · intro hn
    have N := o.nok hp hn
    generalize nrow w p ld = z at N
    refine ⟨at0 z p, fun j => -(at0 z j), by have := N.place; omega, fun k => ?_⟩
    have h1 := nl_getD N.null k
    unfold nl at h1
    rw [sumR_cut (p := p + 1) w hp fun i h1 h2 => by rw [N.up i (by omega), Int.zero_mul], sumR_succ] at h1
    rw [show sumR p (fun j => -(at0 z j) * at0 (((List.range p).map (col A)).getD j []) k) = sumR p fun j => -1 * (at0 z j * at0 (A.getD k []) j) from sumR_congr _ fun j hj => by rw [gd j hj, at_col, Int.neg_mul, Int.neg_mul, Int.one_mul], sumR_mul, at_col]
    omega
/-- bounds -/
theorem Lead.vbits (o : Lead w A ld) (hp : p < w) (n : p ∉ ld.map (·.1)) (w5 : w ≤ 5) : (scale ld).natAbs < 2 ^ 8062 ∧ Bits 10080 (vals w p ld) ∧ ∀ q ∈ ld, Bits 2015 q.2 := by
  have few := o.fewer hp n
  have up : ∀ k, k ≤ 4 → eB k ≤ 2015 := fun k h => by
    have : 2 ^ k ≤ 2 ^ 4 := Nat.pow_le_pow_right (by decide) h
    unfold eB
    omega
  have bq : ∀ q ∈ ld, Bits 2015 q.2 := fun q hq => (o.bits q hq).up (up _ (by omega))
  have sb := scale_bits ld 1 1 (by decide) (by decide) fun q hq => ⟨(o.pos q hq).1, bq q hq⟩
  have sb2 : (scale ld).natAbs < 2 ^ 8062 := Nat.lt_of_lt_of_le sb (Nat.pow_le_pow_right (by decide) (by omega))
  refine ⟨sb2, fun x hx => ?_, bq⟩
  have V := o.vok hp n
  have dv := o.sc.2
  generalize scale ld = sc at V dv sb2
  obtain ⟨i, hi⟩ := List.getElem?_of_mem hx
  have ex : at0 (vals w p ld) i = x := by unfold at0; rw [List.getD_eq_getElem?_getD, hi]; rfl
  rw [← ex]
  by_cases e : i = p
  · rw [e, V.place]
    exact Nat.lt_of_lt_of_le sb2 (Nat.pow_le_pow_right (by decide) (by decide))
  · by_cases hm : i ∈ ld.map (·.1)
    · obtain ⟨q, hq, rfl⟩ := List.mem_map.mp hm
      rw [V.piv q hq, Int.natAbs_mul, Int.natAbs_neg]
      have h1 := (bq q hq).at p
      have h2 := natAbs_fdiv (dv q hq) (by have := (o.pos q hq).1; omega)
      have h3 : (at0 q.2 p).natAbs * (sc.fdiv (at0 q.2 q.1)).natAbs < 2 ^ (2015 + 8062) := by
        rw [Nat.pow_add]
        exact Nat.mul_lt_mul'' h1 (Nat.lt_of_le_of_lt h2 sb2)
      exact Nat.lt_of_lt_of_le h3 (Nat.pow_le_pow_right (by decide) (by decide))
    · rw [V.rest i e hm]
      exact Nat.pow_pos (by decide)
end
end GX

set_option Elab.async false
set_option linter.all false
set_option maxRecDepth 100000
set_option maxHeartbeats 4000000
/-! ### signatures as data: the mathematics -/
namespace GX
open PySem L2 PySem.Spec
/-- closed under the constructors -/
def Closed (ts : List Trip) (r : List Str) : Prop := ∀ t ∈ ts, (∀ p ∈ t.2.2, p ∈ r) → t.2.1 ∈ r
theorem Fint.mem {ts : List Trip} {r : List Str} (c : Closed ts r) : ∀ {k : Str}, Fint ts k → k ∈ r := by
  intro k h
  induction h with
  | mk ht _ ih => exact c _ ht ih
theorem kinds_le (ts : List Trip) : (kindsOf ts).length ≤ ts.length := by
  revert ts
  refine snoc_ind (Nat.le_refl _) ?_
  intro ts t ih
  rw [kindsOf_app, List.length_append]
  unfold addKind
  split
  · exact Nat.le_trans ih (Nat.le_add_right _ _)
  · rw [List.length_append]
    exact Nat.add_le_add_right ih 1
/-- how many kinds are not found yet -/
def left (ts : List Trip) (r : List Str) : Nat := ((kindsOf ts).filter fun k => decide (k ∉ r)).length
theorem filter_less {α : Type} (p q : α → Bool) : ∀ (l : List α) (k : α), k ∈ l → p k = true → q k = false → (∀ x, q x = true → p x = true) →
    (l.filter q).length < (l.filter p).length := by
  intro l k hk hp hq hi
  have sub : ∀ l : List α, (l.filter q).length ≤ (l.filter p).length := by
    intro l
    induction l with
    | nil => exact Nat.le_refl _
    | cons a r ih =>
      rw [List.filter_cons, List.filter_cons]
      cases ha : q a with
      | true =>
        rw [if_pos rfl, if_pos (hi a ha)]
        exact Nat.succ_le_succ ih
      | false =>
        rw [if_neg (by decide)]
        split
        · exact Nat.le_succ_of_le ih
        · exact ih
  induction l with
  | nil => cases hk
  | cons a r ih =>
    rw [List.filter_cons, List.filter_cons]
    rcases List.mem_cons.mp hk with e | e
    · subst e
      rw [if_neg (by rw [hq]; decide), if_pos hp]
      exact Nat.lt_succ_of_le (sub r)
    · have z := ih e
      cases ha : q a with
      | true =>
        rw [if_pos rfl, if_pos (hi a ha)]
        exact Nat.succ_lt_succ z
      | false =>
        rw [if_neg (by decide)]
        split
        · exact Nat.lt_succ_of_lt z
        · exact z
theorem left_less {ts : List Trip} {r : List Str} {k : Str} (hk : k ∈ kindsOf ts) (hr : k ∉ r) : left ts (r ++ [k]) < left ts r := by
  refine filter_less _ _ _ k hk (decide_eq_true hr) ?_ ?_
  · exact decide_eq_false fun q => q (List.mem_append_right _ (List.mem_singleton.mpr rfl))
  · intro x hx
    exact decide_eq_true fun q => of_decide_eq_true hx (List.mem_append_left _ q)
/-- a triple, a list of them -/
abbrev strsD (zs : List Str) : List D := zs.map .str
abbrev trD (t : Trip) : D := .tup [.str t.1, .str t.2.1, .tup (strsD t.2.2)]
theorem seth_id {h : Hs} {a : Addr} {o : DO} (e : h a = some o) : seth h a o = h := by
  funext b; unfold seth
  by_cases q : b = a
  · subst q; rw [if_pos rfl, e]
  · rw [if_neg q]
section
variable {ρ : Rho} {h : Hs} {Q : QD} {x : D}
/-- [.. for k in d], d data or a cell, the items no matter where -/
theorem d_lockLcV {w : TI} {td : TE} {sel : List (Key × D) → List D} {g : TG} {tt : TT} {te : TE} {vs : List Nat} {kds : List (Key × D)} (hw : WalksD w td sel) (hd : Det td ρ h x) (hv : DkV h x kds)
    (z : ∀ h1 Sd Q1, SdOk Sd h1 → (∀ a o, h a = some o → (∀ kds, o ≠ .dK kds) → h1 a = some o) → (∀ ys, Fresh ys h Q → Fresh ys h1 Q1) → dLcGo g tt te vs ρ Q1 (sel kds) Sd h1) : dE (tLockEU (tLc w g tt te vs)) ρ h Q := by
  rcases hv with rfl | ⟨d, rfl, e | ⟨o, kvs, e⟩⟩
  · exact d_lockLc hw hd (z h _ Q .t (fun _ _ e _ => e) fun _ q => q)
  · refine d_lockLcC hw hd e fun od kvs => z _ _ _ (.c seth_same) (fun a o ea n => (seth_ne (fun q => by rw [q, e] at ea; exact n _ (Option.some.inj ea).symm)).trans ea) fun ys q => ?_
    rcases q with q | q
    · refine .inl ⟨seth_same, ?_⟩
      rw [seth_seth, seth_id e]
      exact q
    · refine .inr fun a na => ?_
      have ne : a ≠ d := fun z => by
        rw [z, seth_same] at na
        cases na
      rw [seth_ne ne] at na
      refine ⟨by rw [seth_ne ne.symm, seth_same], ?_⟩
      rw [seth_comm ne, seth_seth, seth_id e]
      exact q a na
  · refine fun σ H Q' rl p => .inr ?_
    obtain ⟨v, dv, k⟩ := hd σ H rl
    cases dv
    obtain ⟨e2, a, b⟩ := rl.rh.cell d _ e
    refine r_lc (hw σ H d o kvs kds h (fun h' => h' d = some (.dKl o kvs kds)) _ (fun Q q => k H (sameU (Same.refl H)) Q q) e2 ?_ fun J it => lcgo_of rl p it (z h _ Q (.c e) (fun _ _ e _ => e) fun _ q => q))
    intro h' H' r s
    obtain ⟨e3, a3, b3⟩ := r.cell d _ s.1
    exact ⟨e3, a3, b3⟩
/-- for k in d, the turns leave the cells as they are -/
theorem d_lockForV {w : TI} {td : TE} {sel : List (Key × D) → List D} {g : TG} {t : TS} {E : DEnds} {kds : List (Key × D)} (hw : WalksD w td sel) (hd : Det td ρ h x) (hv : DkV h x kds)
    (z : ∀ h1 Sd E1, Sd h1 → (∀ a o, h a = some o → (∀ kds, o ≠ .dK kds) → h1 a = some o) → (∀ y ks, DkV h y ks → DkV h1 y ks) → (∀ ρ', E.nx ρ' h → E1.nx ρ' h1) → (∀ y, E.rt y h → E1.rt y h1) → dFor g t E1 ρ (sel kds) Sd h1) : dS (tLockU (tFor w g t)) E ρ h := by
  rcases hv with rfl | ⟨d, rfl, e | ⟨o, kvs, e⟩⟩
  · exact d_lockFor hw hd (z h _ E trivial (fun _ _ e _ => e) (fun _ _ e => e) (fun _ q => q) fun _ q => q)
  · refine d_lockForC hw hd e fun od kvs => z _ _ _ seth_same (fun a o ea n => ?_) (fun y ks hy => ?_) (fun ρ' q => ⟨seth_same, ?_⟩) (fun y q => ⟨seth_same, ?_⟩)
    · rw [seth_ne]
      · exact ea
      · rintro rfl
        rw [e] at ea
        exact n _ (Option.some.inj ea).symm
    · rcases hy with rfl | ⟨b, rfl, hb⟩
      · exact .f
      · by_cases q : b = d
        · subst q
          rcases hb with hb | ⟨o, us, hb⟩
          · rw [e] at hb
            cases hb
            exact .k seth_same
          · rw [e] at hb
            cases hb
        · rcases hb with hb | ⟨o, us, hb⟩
          · exact .c ((seth_ne q).trans hb)
          · exact .k ((seth_ne q).trans hb)
    · rw [seth_seth, seth_id e]
      exact q
    · rw [seth_seth, seth_id e]
      exact q
  · refine fun σ H E' rl p => .inr ?_
    obtain ⟨v, dv, k⟩ := hd σ H rl
    cases dv
    obtain ⟨e2, a, b⟩ := rl.rh.cell d _ e
    refine r_for (hw σ H d o kvs kds h (fun h' => h' d = some (.dKl o kvs kds)) _ (fun Q q => k H (sameU (Same.refl H)) Q q) e2 ?_ fun J it => forgo_of rl p it (z h _ E e (fun _ _ e _ => e) (fun _ _ e => e) (fun _ q => q) fun _ q => q))
    intro h' H' r s
    obtain ⟨e3, a3, b3⟩ := r.cell d _ s.1
    exact ⟨e3, a3, b3⟩
end
end GX

set_option Elab.async false
set_option linter.all false
set_option maxRecDepth 100000
set_option maxHeartbeats 4000000
/-! ### dicts by functions, a signature's data -/
namespace GX
open PySem L2 PySem.Spec
section
variable {κ α : Type} [DecidableEq κ]
theorem dval_at (f : α → κ) (v : α → D) : ∀ (ts : List α) (t : α), t ∈ ts → (ts.map f).Nodup → dval (ts.map fun t => (f t, v t)) (f t) = some (v t) := by
  intro ts t ht nd
  induction ts with
  | nil => cases ht
  | cons a r ih =>
    rw [List.map_cons, List.nodup_cons] at nd
    unfold dval
    rw [List.map_cons, List.find?_cons]
    rcases List.mem_cons.mp ht with e | e
    · subst e
      simp
    · have ne : ¬ f a = f t := fun q => nd.1 (by
        rw [q]
        exact List.mem_map_of_mem e)
      rw [decide_eq_false ne]
      exact ih e nd.2
theorem dval_none (f : α → κ) (v : α → D) : ∀ (ts : List α) (z : κ), z ∉ ts.map f → dval (ts.map fun t => (f t, v t)) z = none := by
  intro ts z hz
  induction ts with
  | nil => rfl
  | cons a r ih =>
    rw [List.map_cons, List.mem_cons, not_or] at hz
    unfold dval
    rw [List.map_cons, List.find?_cons]
    have ne : ¬ f a = z := fun q => hz.1 q.symm
    rw [decide_eq_false ne]
    exact ih hz.2
theorem dval_isSome (f : α → κ) (v : α → D) (ts : List α) (z : κ) (nd : (ts.map f).Nodup) : (dval (ts.map fun t => (f t, v t)) z).isSome = decide (z ∈ ts.map f) := by
  by_cases h : z ∈ ts.map f
  · obtain ⟨t, ht, rfl⟩ := List.mem_map.mp h
    rw [dval_at f v ts t ht nd, decide_eq_true h]
    rfl
  · rw [dval_none f v ts z h, decide_eq_false h]
    rfl
theorem any_dval (kds : List (κ × D)) (k : κ) : (kds.any fun kv => decide (kv.1 = k)) = (dval kds k).isSome := by
  unfold dval
  induction kds with
  | nil => rfl
  | cons a r ih =>
    rw [List.any_cons, List.find?_cons]
    by_cases q : a.1 = k
    · rw [decide_eq_true q]; rfl
    · rw [decide_eq_false q, Bool.false_or]; exact ih
theorem dput_new {kds : List (κ × D)} {k : κ} (v : D) (e : dval kds k = none) : dput kds k v = kds ++ [(k, v)] := by
  unfold dput
  rw [any_dval, e]
  rfl
theorem dval_put (kds : List (κ × D)) (k j : κ) (v : D) : dval (dput kds k v) j = if j = k then some v else dval kds j := by
  have app : ∀ l : List (κ × D), dval (l ++ [(k, v)]) j = (dval l j).or (if j = k then some v else none) := by
    intro l
    unfold dval
    rw [List.find?_append]
    cases e : l.find? (fun kv => decide (kv.1 = j)) with
    | some x => rfl
    | none =>
      by_cases q : j = k
      · subst q; simp [List.find?_cons]
      · have : ¬ k = j := fun z => q z.symm
        simp [List.find?_cons, this, q]
  unfold dput
  rw [any_dval]
  cases e : dval kds k with
  | none =>
    rw [if_neg (by simp), app]
    by_cases q : j = k
    · subst q; rw [e]; simp
    · rw [if_neg q, if_neg q, Option.or_none]
  | some d =>
    rw [if_pos (by rfl)]
    clear app
    induction kds with
    | nil => cases e
    | cons a r ih =>
      unfold dval at e ih ⊢
      rw [List.map_cons, List.find?_cons, List.find?_cons]
      by_cases qa : a.1 = k
      · by_cases q : j = k
        · subst q; simp [qa]
        · have : ¬ a.1 = j := fun z => q (z.symm.trans qa)
          have h2 : ¬ k = j := fun z => q z.symm
          simp only [qa, if_true, decide_eq_false h2, if_neg q]
          clear ih
          rename_i e0
          have : ∀ l : List (κ × D), (l.map fun kv => if kv.1 = k then (kv.1, v) else kv).find? (fun kv => decide (kv.1 = j)) = l.find? (fun kv => decide (kv.1 = j)) := by
            intro l
            induction l with
            | nil => rfl
            | cons b s ih2 =>
              rw [List.map_cons, List.find?_cons, List.find?_cons]
              by_cases qb : b.1 = k
              · simp only [qb, if_true, decide_eq_false h2]; exact ih2
              · simp only [qb, if_false]
                by_cases qj : b.1 = j
                · rw [decide_eq_true qj]
                · rw [decide_eq_false qj]; exact ih2
          rw [this]
      · rw [List.find?_cons, decide_eq_false qa] at e
        have := ih e
        simp only [qa, if_false]
        by_cases qj : a.1 = j
        · have : ¬ j = k := fun z => qa (qj.trans z)
          rw [decide_eq_true qj, if_neg this]
        · rw [decide_eq_false qj]
          exact this
theorem dput_len (kds : List (κ × D)) (k : κ) (v : D) : (dput kds k v).length ≤ kds.length + 1 := by
  unfold dput
  split
  · rw [List.length_map]; exact Nat.le_succ _
  · rw [List.length_append]; exact Nat.le_refl _
end
section
variable {h : Hs} {x d : D} {kds : List (Key × D)} {C : Addr} {fs : List (Str × D)} {y : D}
theorem lk0 {f : Str} {a : D} {r : List (Str × D)} : List.lookup f ((f, a) :: r) = some a := by simp [List.lookup]
theorem lkS {f g : Str} {a : D} {r : List (Str × D)} {o : Option D} (n : ¬ f = g) (z : List.lookup f r = o) : List.lookup f ((g, a) :: r) = o := by
  have : (f == g) = false := by simpa using n
  rw [List.lookup_cons, this]; exact z
theorem lkN {f : Str} : List.lookup f ([] : List (Str × D)) = none := rfl
theorem x_fldV {K : PySem.W.Frag} {f : Str} {R : D → Prop} (i : InsV h x C fs) (c : Cls K C) (n : NoAttr K C f) (l : fs.lookup f = some y) (q : R y) : ∃ C' fs' y', InsV h x C' fs' ∧ Cls K C' ∧ NoAttr K C' f ∧ fs'.lookup f = some y' ∧ R y' := ⟨C, fs, y, i, c, n, l, q⟩
theorem x_methV {m : Str} {R : Prop} (i : InsV h x C fs) (l : fs.lookup m = none) (q : R) : ∃ fs', InsV h x C fs' ∧ fs'.lookup m = none ∧ R := ⟨fs, i, l, q⟩
theorem x_sfldC {K : PySem.W.Frag} {f : Str} {a : Addr} {R : Hs → Prop} (e : h a = some (.ins C fs)) (c : Cls K C) (n : NoAttr K C f) (l : fs.length < 1000) (q : R (seth h a (.ins C (putFD f y fs)))) :
    ∃ o C' fs', D.ref a = .ref o ∧ h o = some (.ins C' fs') ∧ Cls K C' ∧ NoAttr K C' f ∧ fs'.length < 1000 ∧ R (seth h o (.ins C' (putFD f y fs'))) := ⟨a, C, fs, rfl, e, c, n, l, q⟩
theorem x_inS {z : Str} {R : Option D → Prop} (hv : DkV h x kds) (q : R (dval kds (Sum.inr z))) : ∃ o, DGetD h x (.str z) o ∧ R o := ⟨_, .k (k := Sum.inr z) hv, q⟩
theorem x_inI {i : Int} {R : Option D → Prop} (hv : DkV h x kds) (q : R (dval kds (Sum.inl i))) : ∃ o, DGetD h x (.int i) o ∧ R o := ⟨_, .k (k := Sum.inl i) hv, q⟩
theorem x_getS {z : Str} {R : D → Prop} (hv : DkV h x kds) (e : dval kds (Sum.inr z) = some d) (q : R d) : ∃ d, DGetD h x (.str z) (some d) ∧ R d := ⟨d, by rw [← e]; exact .k (k := Sum.inr z) hv, q⟩
theorem x_getI {i : Int} {R : D → Prop} (hv : DkV h x kds) (e : dval kds (Sum.inl i) = some d) (q : R d) : ∃ d, DGetD h x (.int i) (some d) ∧ R d := ⟨d, by rw [← e]; exact .k (k := Sum.inl i) hv, q⟩
theorem x_putS {a : Addr} {z : Str} {R : Hs → Prop} (e : h a = some (.dK kds)) (l : kds.length ≤ 100000) (q : R (seth h a (.dK (dput kds (Sum.inr z) d)))) : ∃ o h4, D.ref a = .ref o ∧ DPutD h o (.str z) d h4 ∧ R h4 := ⟨a, _, rfl, .k (k := Sum.inr z) e l, q⟩
theorem x_putI {a : Addr} {i : Int} {R : Hs → Prop} (e : h a = some (.dK kds)) (l : kds.length ≤ 100000) (q : R (seth h a (.dK (dput kds (Sum.inl i) d)))) : ∃ o h4, D.ref a = .ref o ∧ DPutD h o (.int i) d h4 ∧ R h4 := ⟨a, _, rfl, .k (k := Sum.inl i) e l, q⟩
theorem x_isK {R : Prop} (hv : DkV h x kds) (q : R) : (∃ kds, DkV h x kds) ∧ R := ⟨⟨kds, hv⟩, q⟩
theorem x_isDV {R : Prop} (hv : DkV h x kds) (q : R) : DV h x ∧ R := ⟨.inl ⟨kds, hv⟩, q⟩
end
theorem putFD_len {f : Str} {v : D} : ∀ {fs : List (Str × D)}, (putFD f v fs).length ≤ fs.length + 1
  | [] => Nat.le_refl _
  | (g, x) :: r => by
    unfold putFD
    split
    · exact Nat.le_succ _
    · exact Nat.succ_le_succ putFD_len
theorem putFD_ne {f g : Str} {v x : D} {r : List (Str × D)} (n : ¬ g = f) : putFD f v ((g, x) :: r) = (g, x) :: putFD f v r := by rw [putFD, if_neg n]
theorem putFD_eq {f : Str} {v x : D} {r : List (Str × D)} : putFD f v ((f, x) :: r) = (f, v) :: r := by rw [putFD, if_pos rfl]
/-! ### a signature -/
def entK (ts : List Trip) : List (Key × D) := ts.map fun t => (Sum.inr t.1, .tup [.str t.2.1, .tup (strsD t.2.2)])
def grpL (L : Str → D) (ts : List Trip) : List (Key × D) := (kindsOf ts).map fun k => (Sum.inr k, L k)
def conL (ts : List Trip) (k : Str) : D := .lst (strsD (consOf ts k))
/-- a signature, as data -/
def sigD (C : Addr) (ts : List Trip) : D := .ins C [("entries", .dK (entK ts)), ("grouped", .dK (grpL (conL ts) ts))]
/-- a signature seen: data, or being made -/
structure SigV (h : Hs) (C : Addr) (x : D) (ts : List Trip) (en gr : D) (L : Str → D) : Prop where
  i : InsV h x C [("entries", en), ("grouped", gr)]
  en : DkV h en (entK ts)
  gr : DkV h gr (grpL L ts)
  vs : ∀ k ∈ kindsOf ts, LsV h (L k) (strsD (consOf ts k))
theorem inr_nodup {l : List Str} (nd : l.Nodup) : (l.map (Sum.inr : Str → Key)).Nodup := by
  rw [List.nodup_iff_pairwise_ne, List.pairwise_map]
  exact (List.nodup_iff_pairwise_ne.mp nd).imp fun n e => n (Sum.inr.inj e)
theorem sigV_of {h : Hs} {C : Addr} {ts : List Trip} : SigV h C (sigD C ts) ts (.dK (entK ts)) (.dK (grpL (conL ts) ts)) (conL ts) :=
  ⟨.f, .f, .f, fun k hk => .f⟩
theorem entK_isSome {ts : List Trip} (nd : (ts.map (·.1)).Nodup) (c : Str) : (dval (entK ts) (Sum.inr c)).isSome = decide (c ∈ ts.map (·.1)) := by
  unfold entK
  have nd2 : (ts.map fun t : Trip => (Sum.inr t.1 : Key)).Nodup := by
    have := inr_nodup nd
    rwa [List.map_map] at this
  rw [dval_isSome (fun t : Trip => (Sum.inr t.1 : Key)) _ ts (Sum.inr c) nd2]
  have : (Sum.inr c : Key) ∈ (ts.map fun t : Trip => (Sum.inr t.1 : Key)) ↔ c ∈ ts.map (·.1) := by
    constructor
    · intro h
      obtain ⟨t, ht, e⟩ := List.mem_map.mp h
      exact List.mem_map.mpr ⟨t, ht, Sum.inr.inj e⟩
    · intro h
      obtain ⟨t, ht, e⟩ := List.mem_map.mp h
      exact List.mem_map.mpr ⟨t, ht, by rw [e]⟩
  simp only [this]
theorem entK_at {ts : List Trip} (nd : (ts.map (·.1)).Nodup) {t : Trip} (ht : t ∈ ts) : dval (entK ts) (Sum.inr t.1) = some (.tup [.str t.2.1, .tup (strsD t.2.2)]) := by
  unfold entK
  have nd2 : (ts.map fun t : Trip => (Sum.inr t.1 : Key)).Nodup := by
    have := inr_nodup nd
    rwa [List.map_map] at this
  exact dval_at (fun t : Trip => (Sum.inr t.1 : Key)) (fun t => .tup [.str t.2.1, .tup (strsD t.2.2)]) ts t ht nd2
theorem entK_none {ts : List Trip} {c : Str} (n : c ∉ ts.map (·.1)) : dval (entK ts) (Sum.inr c) = none :=
  dval_none (fun t : Trip => (Sum.inr t.1 : Key)) _ ts _ fun h => by
    obtain ⟨t, ht, e⟩ := List.mem_map.mp h
    exact n (List.mem_map.mpr ⟨t, ht, Sum.inr.inj e⟩)
/-- where the keys are these -/
theorem dval_keys {κ : Type} [DecidableEq κ] : ∀ {kds : List (κ × D)} {k : κ}, (dval kds k).isSome = decide (k ∈ kds.map (·.1))
  | [], k => by simp [dval]
  | a :: r, k => by
    unfold dval
    rw [List.find?_cons, List.map_cons]
    by_cases q : a.1 = k
    · rw [decide_eq_true q, decide_eq_true (by rw [q]; exact List.mem_cons_self ..)]; rfl
    · rw [decide_eq_false q]
      have : (k ∈ a.1 :: r.map (·.1)) ↔ k ∈ r.map (·.1) := by
        rw [List.mem_cons]
        exact ⟨fun z => z.resolve_left fun e => q e.symm, .inr⟩
      simp only [this]
      exact dval_keys
theorem grpL_keys (L : Str → D) (ts : List Trip) : (grpL L ts).map (·.1) = (kindsOf ts).map (Sum.inr : Str → Key) := by unfold grpL; rw [List.map_map]; rfl
theorem grpL_isSome (L : Str → D) (ts : List Trip) (k : Str) : (dval (grpL L ts) (Sum.inr k)).isSome = decide (k ∈ kindsOf ts) := by
  rw [dval_keys, grpL_keys]
  have : (Sum.inr k : Key) ∈ (kindsOf ts).map (Sum.inr : Str → Key) ↔ k ∈ kindsOf ts := by
    constructor
    · intro h
      obtain ⟨t, ht, e⟩ := List.mem_map.mp h
      exact Sum.inr.inj e ▸ ht
    · exact List.mem_map_of_mem
  simp only [this]
theorem grpL_at (L : Str → D) {ts : List Trip} {k : Str} (hk : k ∈ kindsOf ts) : dval (grpL L ts) (Sum.inr k) = some (L k) :=
  dval_at (fun k : Str => (Sum.inr k : Key)) L (kindsOf ts) k hk (inr_nodup (nodup_kindsOf ts))
theorem grpL_none (L : Str → D) {ts : List Trip} {k : Str} (hk : k ∉ kindsOf ts) : dval (grpL L ts) (Sum.inr k) = none := by
  have := grpL_isSome L ts k
  rw [decide_eq_false hk] at this
  cases e : dval (grpL L ts) (Sum.inr k) with
  | none => rfl
  | some d => rw [e] at this; cases this
end GX

set_option Elab.async false
set_option linter.all false
set_option maxRecDepth 100000
set_option maxHeartbeats 4000000
/-! ### a signature being made: its cells -/
namespace GX
open PySem L2 PySem.Spec
theorem LsV.up {h h1 : Hs} {x : D} {ds : List D} (v : LsV h x ds) (k : ∀ a o, h a = some o → (∀ kds, o ≠ .dK kds) → h1 a = some o) : LsV h1 x ds := by
  rcases v with rfl | ⟨p, rfl, e⟩
  · exact .f
  · exact .c (k p _ e fun _ q => nomatch q)
theorem LsV.new {h : Hs} {x : D} {ds : List D} {p : Addr} {o : DO} (v : LsV h x ds) (n : h p = none) : LsV (seth h p o) x ds := by
  rcases v with rfl | ⟨q, rfl, e⟩
  · exact .f
  · exact .c ((seth_ne (h_ne e n)).trans e)
theorem all_false {α : Type} (l : List α) : ((l.map fun _ => false).any id) = false := by
  rw [List.any_map]
  exact List.any_eq_false.mpr fun _ _ => by simp
/-- the cells of a signature over the others: its own, two dicts, a list for each kind -/
def sigH (h0 : Hs) (C S de dg : Addr) (A : Str → Addr) (ts : List Trip) : Hs := fun b =>
  if b = S then some (.ins C [("entries", .ref de), ("grouped", .ref dg)]) else if b = de then some (.dK (entK ts)) else if b = dg then some (.dK (grpL (fun k => .ref (A k)) ts)) else
    match (kindsOf ts).find? fun k => decide (A k = b) with
    | some k => some (.lst (strsD (consOf ts k)))
    | none => h0 b
structure SigC (h0 : Hs) (S de dg : Addr) (A : Str → Addr) (ts : List Trip) : Prop where
  nS : h0 S = none
  ne : h0 de = none
  ng : h0 dg = none
  d1 : de ≠ S
  d2 : dg ≠ S
  d3 : dg ≠ de
  kA : ∀ k ∈ kindsOf ts, A k ≠ S ∧ A k ≠ de ∧ A k ≠ dg ∧ h0 (A k) = none
  inj : ∀ k ∈ kindsOf ts, ∀ k' ∈ kindsOf ts, A k = A k' → k = k'
section
variable {h0 : Hs} {C S de dg : Addr} {A : Str → Addr} {ts : List Trip}
theorem sigH_S : sigH h0 C S de dg A ts S = some (.ins C [("entries", .ref de), ("grouped", .ref dg)]) := if_pos rfl
theorem sigH_e (c : SigC h0 S de dg A ts) : sigH h0 C S de dg A ts de = some (.dK (entK ts)) := by unfold sigH; rw [if_neg c.d1, if_pos rfl]
theorem sigH_g (c : SigC h0 S de dg A ts) : sigH h0 C S de dg A ts dg = some (.dK (grpL (fun k => .ref (A k)) ts)) := by unfold sigH; rw [if_neg c.d2, if_neg c.d3, if_pos rfl]
theorem find_inj {l : List Str} {k : Str} (hk : k ∈ l) (inj : ∀ j ∈ l, A j = A k → j = k) : l.find? (fun j => decide (A j = A k)) = some k := by
  induction l with
  | nil => cases hk
  | cons a l ih =>
    rw [List.find?_cons]
    by_cases e : A a = A k
    · rw [decide_eq_true e, inj a (List.mem_cons_self ..) e]
    · rw [decide_eq_false e]
      refine ih ((List.mem_cons.mp hk).resolve_left fun z => e (by rw [z])) fun j hj => inj j (List.mem_cons_of_mem _ hj)
theorem sigH_A (c : SigC h0 S de dg A ts) {k : Str} (hk : k ∈ kindsOf ts) : sigH h0 C S de dg A ts (A k) = some (.lst (strsD (consOf ts k))) := by
  obtain ⟨n1, n2, n3, _⟩ := c.kA k hk
  unfold sigH
  rw [if_neg n1, if_neg n2, if_neg n3, find_inj hk fun j hj e => c.inj j hj k hk e]
theorem sigH_out {b : Addr} (n1 : b ≠ S) (n2 : b ≠ de) (n3 : b ≠ dg) (n4 : ∀ k ∈ kindsOf ts, A k ≠ b) : sigH h0 C S de dg A ts b = h0 b := by
  unfold sigH
  rw [if_neg n1, if_neg n2, if_neg n3]
  have : (kindsOf ts).find? (fun k => decide (A k = b)) = none := List.find?_eq_none.mpr fun k hk e => n4 k hk (of_decide_eq_true e)
  rw [this]
theorem sigH_in {b : Addr} (c : SigC h0 S de dg A ts) (e : sigH h0 C S de dg A ts b = none) : h0 b = none ∧ b ≠ S ∧ b ≠ de ∧ b ≠ dg ∧ ∀ k ∈ kindsOf ts, A k ≠ b := by
  have n1 : b ≠ S := fun z => by rw [z, sigH_S] at e; cases e
  have n2 : b ≠ de := fun z => by rw [z, sigH_e c] at e; cases e
  have n3 : b ≠ dg := fun z => by rw [z, sigH_g c] at e; cases e
  have n4 : ∀ k ∈ kindsOf ts, A k ≠ b := fun k hk z => by rw [← z, sigH_A c hk] at e; cases e
  rw [sigH_out n1 n2 n3 n4] at e
  exact ⟨e, n1, n2, n3, n4⟩
theorem sigH_old {b : Addr} {o : DO} (c : SigC h0 S de dg A ts) (e : h0 b = some o) : sigH h0 C S de dg A ts b = some o := by
  rw [sigH_out, e]
  · exact fun z => by rw [z, c.nS] at e; cases e
  · exact fun z => by rw [z, c.ne] at e; cases e
  · exact fun z => by rw [z, c.ng] at e; cases e
  · exact fun k hk z => by rw [← z, (c.kA k hk).2.2.2] at e; cases e
theorem sigV_cell (c : SigC h0 S de dg A ts) : SigV (sigH h0 C S de dg A ts) C (.ref S) ts (.ref de) (.ref dg) (fun k => .ref (A k)) :=
  ⟨.c sigH_S, .c (sigH_e c), .c (sigH_g c), fun k hk => .c (sigH_A c hk)⟩
theorem sigH_start (nS : h0 S = none) (ne : h0 de = none) (ng : h0 dg = none) (d1 : de ≠ S) (d2 : dg ≠ S) (d3 : dg ≠ de) : SigC h0 S de dg (fun _ => 0) [] ∧
    seth (seth (seth (seth (seth h0 S (.ins C [])) de (.dK [])) S (.ins C (putFD "entries" (.ref de) []))) dg (.dK [])) S (.ins C (putFD "grouped" (.ref dg) (putFD "entries" (.ref de) []))) = sigH h0 C S de dg (fun _ => 0) [] := by
  have c : SigC h0 S de dg (fun _ => 0) [] := ⟨nS, ne, ng, d1, d2, d3, (fun _ h => nomatch h), (fun _ h => nomatch h)⟩
  refine ⟨c, ?_⟩
  have ep : putFD "grouped" (.ref dg) (putFD "entries" (.ref de) []) = ([("entries", .ref de), ("grouped", .ref dg)] : List (Str × D)) := by
    show putFD "grouped" (.ref dg) [("entries", .ref de)] = _
    rw [putFD_ne (by decide +kernel)]
    rfl
  rw [ep]
  funext b
  unfold sigH
  by_cases b1 : b = S
  · rw [if_pos b1, b1, seth_same]
  · rw [if_neg b1, seth_ne b1]
    by_cases b2 : b = de
    · rw [if_pos b2, b2, seth_ne d3.symm, seth_ne d1, seth_same]
      rfl
    · rw [if_neg b2]
      by_cases b3 : b = dg
      · rw [if_pos b3, b3, seth_same]
        rfl
      · rw [if_neg b3, seth_ne b3, seth_ne b1, seth_ne b2, seth_ne b1]
        rfl
/-- one more constructor of a kind that is there -/
theorem sigH_old_kind (c : SigC h0 S de dg A ts) {t : Trip} (nin : t.1 ∉ ts.map (·.1)) (hk : t.2.1 ∈ kindsOf ts) :
    seth (seth (sigH h0 C S de dg A ts) de (.dK (dput (entK ts) (Sum.inr t.1) (.tup [.str t.2.1, .tup (strsD t.2.2)])))) (A t.2.1) (.lst (strsD (consOf ts t.2.1) ++ [.str t.1])) = sigH h0 C S de dg A (ts ++ [t]) ∧
      SigC h0 S de dg A (ts ++ [t]) := by
  have ek : kindsOf (ts ++ [t]) = kindsOf ts := by rw [kindsOf_app]; unfold addKind; rw [if_pos hk]
  have ee : dput (entK ts) (Sum.inr t.1) (.tup [.str t.2.1, .tup (strsD t.2.2)]) = entK (ts ++ [t]) := by
    rw [dput_new _ (entK_none nin)]
    unfold entK
    rw [List.map_append]
    rfl
  have eg : grpL (fun k => .ref (A k)) (ts ++ [t]) = grpL (fun k => .ref (A k)) ts := by unfold grpL; rw [ek]
  have c' : SigC h0 S de dg A (ts ++ [t]) := ⟨c.nS, c.ne, c.ng, c.d1, c.d2, c.d3, by rw [ek]; exact c.kA, by rw [ek]; exact c.inj⟩
  obtain ⟨m1, m2, m3, m4⟩ := c.kA _ hk
  refine ⟨?_, c'⟩
  rw [ee]
  funext b
  by_cases b1 : b = A t.2.1
  · subst b1
    have := sigH_A (C := C) c' (k := t.2.1) (by rw [ek]; exact hk)
    rw [seth_same, this, consOf_app, if_pos rfl]
    show _ = some (DO.lst ((consOf ts t.2.1 ++ [t.1]).map D.str))
    rw [List.map_append]
    rfl
  · rw [seth_ne b1]
    by_cases b2 : b = de
    · subst b2
      rw [seth_same, sigH_e c']
    · rw [seth_ne b2]
      unfold sigH
      rw [if_neg b2, if_neg b2, eg, ek]
      by_cases b3 : b = S
      · rw [if_pos b3, if_pos b3]
      · rw [if_neg b3, if_neg b3]
        by_cases b4 : b = dg
        · rw [if_pos b4, if_pos b4]
        · rw [if_neg b4, if_neg b4]
          cases q : (kindsOf ts).find? (fun k => decide (A k = b)) with
          | none => rfl
          | some k =>
            have hkb : A k = b := by simpa using List.find?_some q
            have ne : ¬ t.2.1 = k := fun z => b1 (by rw [z]; exact hkb.symm)
            show some (DO.lst (strsD (consOf ts k))) = some (DO.lst (strsD (consOf (ts ++ [t]) k)))
            rw [consOf_app, if_neg ne]
/-- .. of a new kind -/
theorem sigH_new_kind (c : SigC h0 S de dg A ts) {t : Trip} {p : Addr} (nin : t.1 ∉ ts.map (·.1)) (hk : t.2.1 ∉ kindsOf ts) (np : sigH h0 C S de dg A ts p = none) :
    seth (seth (seth (sigH h0 C S de dg A ts) de (.dK (dput (entK ts) (Sum.inr t.1) (.tup [.str t.2.1, .tup (strsD t.2.2)])))) dg (.dK (dput (grpL (fun k => .ref (A k)) ts) (Sum.inr t.2.1) (.ref p)))) p (.lst [.str t.1]) =
      sigH h0 C S de dg (fun k => if k = t.2.1 then p else A k) (ts ++ [t]) ∧ SigC h0 S de dg (fun k => if k = t.2.1 then p else A k) (ts ++ [t]) := by
  have ek : kindsOf (ts ++ [t]) = kindsOf ts ++ [t.2.1] := by rw [kindsOf_app]; unfold addKind; rw [if_neg hk]
  have ee : dput (entK ts) (Sum.inr t.1) (.tup [.str t.2.1, .tup (strsD t.2.2)]) = entK (ts ++ [t]) := by
    rw [dput_new _ (entK_none nin)]
    unfold entK
    rw [List.map_append]
    rfl
  obtain ⟨p0, p1, p2, p3, p4⟩ := sigH_in c np
  have same : ∀ k ∈ kindsOf ts, (if k = t.2.1 then p else A k) = A k := fun k hk2 => if_neg fun z => hk (by rw [← z]; exact hk2)
  have eg : dput (grpL (fun k => .ref (A k)) ts) (Sum.inr t.2.1) (.ref p) = grpL (fun k => .ref (if k = t.2.1 then p else A k)) (ts ++ [t]) := by
    rw [dput_new _ (grpL_none _ hk)]
    unfold grpL
    rw [ek, List.map_append]
    congr 1
    · refine List.map_congr_left fun k hk2 => ?_
      show ((Sum.inr k : Key), D.ref (A k)) = (Sum.inr k, D.ref (if k = t.2.1 then p else A k))
      rw [same k hk2]
    · simp
  have c' : SigC h0 S de dg (fun k => if k = t.2.1 then p else A k) (ts ++ [t]) := by
    refine ⟨c.nS, c.ne, c.ng, c.d1, c.d2, c.d3, fun k hk2 => ?_, fun k hk2 k' hk3 e => ?_⟩
    · rw [ek] at hk2
      rcases List.mem_append.mp hk2 with q | q
      · show (if k = t.2.1 then p else A k) ≠ S ∧ _
        rw [same k q]
        exact c.kA k q
      · rw [List.mem_singleton.mp q, if_pos rfl]
        exact ⟨p1, p2, p3, p0⟩
    · have e : (if k = t.2.1 then p else A k) = (if k' = t.2.1 then p else A k') := e
      rw [ek] at hk2 hk3
      rcases List.mem_append.mp hk2 with q | q <;> rcases List.mem_append.mp hk3 with q' | q'
      · rw [same k q, same k' q'] at e
        exact c.inj k q k' q' e
      · rw [same k q, List.mem_singleton.mp q', if_pos rfl] at e
        exact absurd e (p4 k q)
      · rw [same k' q', List.mem_singleton.mp q, if_pos rfl] at e
        exact absurd e.symm (p4 k' q')
      · rw [List.mem_singleton.mp q, List.mem_singleton.mp q']
  refine ⟨?_, c'⟩
  rw [ee, eg]
  funext b
  by_cases b1 : b = p
  · subst b1
    have := sigH_A (C := C) c' (k := t.2.1) (by rw [ek]; exact List.mem_append_right _ (List.mem_singleton.mpr rfl))
    rw [if_pos rfl] at this
    rw [seth_same, this, consOf_app, if_pos rfl, consOf_none hk]
    rfl
  · rw [seth_ne b1]
    by_cases b4 : b = dg
    · subst b4
      rw [seth_same, sigH_g c']
    · rw [seth_ne b4]
      by_cases b2 : b = de
      · subst b2
        rw [seth_same, sigH_e c']
      · rw [seth_ne b2]
        unfold sigH
        rw [if_neg b2, if_neg b2, if_neg b4, if_neg b4]
        by_cases b3 : b = S
        · rw [if_pos b3, if_pos b3]
        · rw [if_neg b3, if_neg b3, ek, List.find?_append]
          have f1 : (kindsOf ts).find? (fun k => decide ((if k = t.2.1 then p else A k) = b)) = (kindsOf ts).find? (fun k => decide (A k = b)) := by
            have key : ∀ l : List Str, (∀ k ∈ l, k ∈ kindsOf ts) → l.find? (fun k => decide ((if k = t.2.1 then p else A k) = b)) = l.find? (fun k => decide (A k = b)) := by
              intro l
              induction l with
              | nil => intro _; rfl
              | cons a l ih =>
                intro hl
                rw [List.find?_cons, List.find?_cons, same a (hl a (List.mem_cons_self ..)), ih fun k q => hl k (List.mem_cons_of_mem _ q)]
            exact key _ fun _ q => q
          rw [f1]
          cases q : (kindsOf ts).find? (fun k => decide (A k = b)) with
          | none =>
            have : ¬ p = b := fun z => b1 z.symm
            simp [this]
          | some k =>
            have hkm := List.mem_of_find?_eq_some q
            have ne : ¬ t.2.1 = k := fun z => hk (z ▸ hkm)
            show some (DO.lst (strsD (consOf ts k))) = some (DO.lst (strsD (consOf (ts ++ [t]) k)))
            rw [consOf_app, if_neg ne]
def delAll (h : Hs) (as : List Addr) : Hs := fun b => if b ∈ as then none else h b
theorem frz_refs (cs : Str → List D) : ∀ (l : List Str) (h : Hs), l.Nodup → (∀ k ∈ l, ∀ k' ∈ l, A k = A k' → k = k') → (∀ k ∈ l, h (A k) = some (.lst (cs k))) →
    FrzA h (l.map fun k => .ref (A k)) (l.map fun k => .lst (cs k)) (delAll h (l.map A))
  | [], h, _, _, _ => by
    have : delAll h ([].map A) = h := funext fun b => by unfold delAll; rw [if_neg (by simp)]
    rw [this]
    exact .id
  | k :: l, h, nd, inj, e => by
    rw [List.nodup_cons] at nd
    have hk := e k (List.mem_cons_self ..)
    have ne : ∀ j ∈ l, A j ≠ A k := fun j hj q => nd.1 (by rw [← inj j (List.mem_cons_of_mem _ hj) k (List.mem_cons_self ..) q]; exact hj)
    have ih := frz_refs cs l (delh h (A k)) nd.2 (fun a ha b hb => inj a (List.mem_cons_of_mem _ ha) b (List.mem_cons_of_mem _ hb)) fun j hj => by
      rw [delh_ne (ne j hj)]
      exact e j (List.mem_cons_of_mem _ hj)
    have eq : delAll (delh h (A k)) (l.map A) = delAll h ((k :: l).map A) := funext fun b => by
      unfold delAll
      rw [List.map_cons]
      by_cases b1 : b = A k
      · rw [if_pos (by rw [b1]; exact List.mem_cons_self .. : b ∈ A k :: l.map A)]
        subst b1
        rw [delh_same, ite_self]
      · rw [delh_ne b1]
        have : (b ∈ A k :: l.map A) ↔ b ∈ l.map A := by
          rw [List.mem_cons]
          exact ⟨fun z => z.resolve_left b1, .inr⟩
        simp only [this]
    rw [eq] at ih
    exact .cons (.lst hk .id) ih
/-- all made: it is data -/
theorem sigH_frz (c : SigC h0 S de dg A ts) : Frz (sigH h0 C S de dg A ts) (.ref S) (sigD C ts) h0 := by
  have e1 : delh (sigH h0 C S de dg A ts) S de = some (.dK (entK ts)) := (delh_ne c.d1).trans (sigH_e c)
  have e2 : delh (delh (sigH h0 C S de dg A ts) S) de dg = some (.dK (grpL (fun k => .ref (A k)) ts)) := (delh_ne c.d3).trans ((delh_ne c.d2).trans (sigH_g c))
  have f := frz_refs (A := A) (fun k => strsD (consOf ts k)) (kindsOf ts) (delh (delh (delh (sigH h0 C S de dg A ts) S) de) dg) (nodup_kindsOf ts) c.inj fun k hk => by
    obtain ⟨n1, n2, n3, _⟩ := c.kA k hk
    rw [delh_ne n3, delh_ne n2, delh_ne n1, sigH_A c hk]
  have eq : delAll (delh (delh (delh (sigH h0 C S de dg A ts) S) de) dg) ((kindsOf ts).map A) = h0 := funext fun b => by
    unfold delAll
    by_cases b4 : b ∈ (kindsOf ts).map A
    · rw [if_pos b4]
      obtain ⟨k, hk, rfl⟩ := List.mem_map.mp b4
      exact (c.kA k hk).2.2.2.symm
    · rw [if_neg b4]
      by_cases b3 : b = dg
      · subst b3; rw [delh_same, c.ng]
      · rw [delh_ne b3]
        by_cases b2 : b = de
        · subst b2; rw [delh_same, c.ne]
        · rw [delh_ne b2]
          by_cases b1 : b = S
          · subst b1; rw [delh_same, c.nS]
          · rw [delh_ne b1]
            exact sigH_out b1 b2 b3 fun k hk z => b4 (List.mem_map.mpr ⟨k, hk, z⟩)
  rw [eq] at f
  refine .ins sigH_S (kes := [("entries", .dK (entK ts)), ("grouped", .dK (grpL (conL ts) ts))]) rfl (.cons (.dK e1 rfl .id) (.cons (.dK e2 ?_ ?_) .id))
  · rw [grpL_keys, grpL_keys]
  · have g1 : (grpL (fun k => D.ref (A k)) ts).map (·.2) = (kindsOf ts).map fun k => D.ref (A k) := by unfold grpL; rw [List.map_map]; rfl
    have g2 : (grpL (conL ts) ts).map (·.2) = (kindsOf ts).map fun k => D.lst (strsD (consOf ts k)) := by unfold grpL; rw [List.map_map]; rfl
    rw [g1, g2]
    exact f
end
end GX

set_option Elab.async false
set_option linter.all false
set_option maxRecDepth 100000
set_option maxHeartbeats 4000000
/-! ### set(l), l a list of ints; sorted of it -/
namespace GX
open PySem L2 PySem.Spec PyProof.Rows
/-- a set just laid, empty -/
abbrev bareSet (w : World) : Obj := { cls := .type "set", dict := none, data := .set #[] 0 (.fresh 0 0 (!w.params.followText "set-order")) }
section
variable {P : Program} {w : World} {A : Around} {E : Value → Shared → Prop} {s : Shared}
set_option maxRecDepth 100000 in
set_option maxHeartbeats 3200000 in
theorem set_of_list {l : Addr} {us : Array Value} (ns : List Int) {Q : Value → Shared → Prop} (calm : A.handled = none) (isl : s.heap.IsList l us) (hv : IntsAre us.toList ns) (room : ns.length + 1 < scanBound)
    (fin : ∀ (g : Heap) (tk c : Nat), SetR w g s.heap.objs.size (fun j => decide (j ∈ ns)) c → c ≤ ns.length → (∀ b o, s.heap.get? b = some o → g.get? b = some o) → Q (.ref s.heap.objs.size) { s with heap := g, toks := tk }) :
    wpAny (model P w) A (call (.type "set") [.ref l]) Q E s := by
  have many : us.size = ns.length := by simpa using IntsAre.length hv
  obtain ⟨k0, r0, way⟩ := F.called_set.mro
  have k1 := F.called_set.made
  have k2 := F.called_set.sub
  refine wpAny_call (codeAny_of_tree ?_)
  show wpAny _ _ (callAny (.type "set") _) _ _ _
  refine wpAny_pure ⟨Code.quiet_builtin _ (by decide +kernel), codeAny_builtin F.entry_type_call ?_⟩
  rw [Around.under_plain (weight_type_call_type "set" [.ref l] []) rfl]
  have k3 := F.called_set.notType
  have k4 := F.called_set.canCreate
  have k5 := F.typeCall_set_1 (.ref l)
  repeat (any_goals (first | assumption | wp_step))
  refine codeAny_mono (code_set_led1 (.ref l) (E := E) (Q₁ := fun v z => v = .ref s.heap.objs.size ∧ z = { s with heap := s.heap.push (bareSet w) }) ⟨rfl, rfl⟩) fun r z hr => ?_
  cases r with
  | error e => exact hr
  | ok fl =>
    cases fl with
    | ret v =>
      obtain ⟨rfl, rfl⟩ := hr
      have spot : (s.heap.push (bareSet w)).get? s.heap.objs.size = some (bareSet w) := Heap.get?_push_size _ rfl
      have hT : Shared.TypeIs { s with heap := s.heap.push (bareSet w) } (.ref s.heap.objs.size) "set" := ⟨_, spot, rfl⟩
      have k6 := F.called_set.init.lookup
      have k7 := F.called_set.init.bind (.ref s.heap.objs.size)
      repeat (any_goals (first | assumption | wp_step))
      refine codeAny_mono (codeAny_call_builtin (R := wants (fun r z => r = .none ∧ ∃ g tk c, z = { s with heap := g, toks := tk } ∧ SetR w g s.heap.objs.size (fun j => decide (j ∈ ns)) c ∧ c ≤ ns.length ∧
          (∀ b o, s.heap.get? b = some o → g.get? b = some o)) E) F.called_set.init.plain F.entry_set_init (check_set_init_1 hT ?_)) fun r z hz => ?_
      · obtain ⟨ol, el, cl, nl, dl⟩ := isl
        obtain ⟨c0, d0, a0, t0⟩ := ol
        simp only at cl dl
        subst cl; subst dl
        have el2 : (s.heap.push (bareSet w)).get? l = some { cls := .type "list", dict := d0, data := .seq us nl, slots := t0 } := Heap.get?_push_of_some _ el
        have n1 := F.sub_list_set
        have n2 := F.sub_list_frozenset
        have n3 : (Value.type "list" == Value.type "dict") = false := by decide
        have isl2 : (s.heap.push (bareSet w)).IsList l us := ⟨_, el2, rfl, nl, rfl⟩
        unfold Builtin.«set.__init__» noKeywords Builtin.Frozenset.updateFrom
        generalize hPI : pyIter = PI
        wp_walk
        subst hPI
        have sz1 : (s.heap.push (bareSet w)).objs.size = s.heap.objs.size + 1 := Heap.size_push ..
        have below : l < s.heap.objs.size := Heap.lt_size el
        have apart : l ≠ (s.heap.push (bareSet w)).objs.size := by rw [sz1]; exact Nat.ne_of_lt (Nat.lt_succ_of_lt below)
        have off : s.heap.objs.size ∉ [(s.heap.push (bareSet w)).objs.size, l] := by
          intro hm
          rcases List.mem_cons.mp hm with q | q
          · rw [sz1] at q
            exact absurd q (Nat.ne_of_lt (Nat.lt_succ_self _))
          · exact absurd (List.mem_singleton.mp q) (Nat.ne_of_gt below)
        refine wpAny_pyIter_list isl2 (wpAny_bind (wpAny_runValue ?_))
        have calm3 : A.in1.in1.in1.handled = none := by simp [calm]
        have each : ∀ (i : Nat) (v : Value), us[i]? = some v → ∃ k t, ns[i]? = some k ∧ v = .int k t := fun i v hi => by
          have lt : i < ns.length := by
            rw [← many]
            exact (Array.getElem?_eq_some_iff.mp hi).1
          obtain ⟨t, et⟩ := PyProof.Rows.IntsAre.int_at hv i v (by rw [Array.getElem?_toList]; exact hi)
          have ek : ns[i]? = some ns[i] := List.getElem?_eq_getElem lt
          refine ⟨ns[i], t, ek, ?_⟩
          rw [et, List.getD_eq_getElem?_getD, ek]
          rfl
        have run := fun {R : Result → Shared → Prop} => set_update_ints (R := R) (P := P) (w := w) (A := A.in1.in1) ((Walks.list calm3 _ l apart us).toS) s.heap.objs.size off ns many room each
        refine run (us.size - 0) 0 _ (by omega) (Nat.zero_le _) ⟨⟨_, Heap.get?_push_size _ rfl, rfl, rfl⟩, isl2.push _⟩ ⟨0, Nat.le_refl 0, setR_new_at (Heap.get?_push_of_some _ spot)⟩ ?_
        intro z c moved few isset
        obtain ⟨g, g2, d2, tk, os2⟩ := z
        obtain rfl : g2 = s.gens := moved.gens
        obtain rfl : d2 = s.drawn := moved.drawn
        obtain rfl : os2 = s.os := moved.os
        show wpAny _ _ _ _ _ _
        refine wpAny_pure ?_
        show wpAny _ _ (ret Value.none) _ _ _
        rw [many] at few
        refine wpAny_pure ⟨rfl, g, tk, c, rfl, isset, few, fun b o eb => ?_⟩
        have lt : b < s.heap.objs.size := Heap.lt_size eb
        refine moved.heap b o (fun hm => ?_) (Heap.get?_push_of_some _ (Heap.get?_push_of_some _ eb))
        rcases List.mem_cons.mp hm with q | q
        · exact absurd q (Nat.ne_of_lt lt)
        · exact absurd (List.mem_singleton.mp q) (Nat.ne_of_lt (by rw [sz1]; exact Nat.lt_succ_of_lt lt))
      · cases r with
        | error e => exact hz
        | ok fl2 =>
          cases fl2 with
          | ret v2 =>
            obtain ⟨rfl, g, tk, c, rfl, isset, few, kept⟩ := hz
            repeat (any_goals (first | assumption | wp_step))
            exact fin _ _ _ isset few kept
          | _ => exact hz.elim
    | _ => exact hr.elim
end
section
variable {X : Cx} {K : PySem.W.Frag}
/-- set(l): a set of ints -/
def rSetL (K : PySem.W.Frag) (w : World) : List V → Hp → VK → Prop := fun xs H Q => ∃ (a : Addr) (ns : List Int), xs = [V.ref a] ∧ SqL K H a (ns.map V.int) ∧ ns.length ≤ 60 ∧
  ∀ p c, H p = none → c ≤ ns.length → Q (.ref p) (upd H p (SetO w p (fun j => decide (j ∈ ns)) c))
theorem call_setL (hK : X.K = K) (hc : X.calm = true) : CallR X (.type "set") (rSetL K X.w) := by
  subst hK
  rintro pins z σ G xs us Q I r ⟨a, ns, rfl, sq, few, q⟩
  obtain ⟨u, rfl, ru⟩ := vals1 r
  cases ru
  obtain ⟨its, rv, pl, _⟩ := I.list sq
  have hi : IntsAre its ns := ints_of_vals rv
  refine set_of_list ns (I.ok.hd hc) pl.isList (by simpa using hi) (Nat.lt_of_le_of_lt (Nat.succ_le_succ few) (by decide)) fun g tk c isset le kept => ?_
  refine ⟨.ref z.heap.objs.size, _, I.laid kept (Nat.le_refl _) (setO_new isset), rfl, q _ c (I.hok.fresh (Nat.le_refl _)) le⟩
end
section
variable {ρ : Rho} {h : Hs} {Q : QD} {K : PySem.W.Frag} {w : World} {te : TE}
/-- sorted(set(l)) -/
theorem d_sortedSet (z : dE te ρ h fun x h1 => ∃ ns : List Int, LsV h1 x (ns.map .int) ∧ ns.length ≤ 60 ∧ ∀ ms : List Int, ms.Pairwise (· < ·) → (∀ k, k ∈ ms ↔ k ∈ ns) → Fresh (ms.map .int) h1 Q) :
    dE (tCB (rSortedSet w) (tCons (tCB (rSetL K w) (tCons te tNil)) tNil)) ρ h Q := fun σ H Q' rl p =>
  z σ H _ rl fun x h1 v H1 ⟨ns, hv, few, q⟩ dx rh s => by
    obtain ⟨a, vs, rfl, e1, a1⟩ := hv.at rh dx
    have := a1.ints_inv
    subst this
    refine ⟨a, ns, rfl, .of e1, few, fun b c nb le => ⟨b, _, c, rfl, upd_same, by omega, fun ms l pw mem len nl => ?_⟩⟩
    obtain ⟨r1, s1⟩ := rh.newF (o := SetO w b (fun j => decide (j ∈ ns)) c) nb
    exact (q ms pw fun k => by rw [mem]; simp).post (p.step (s.trans s1)) r1 nl (DxA.ints ms)
end
end GX

set_option Elab.async false
set_option linter.all false
set_option maxRecDepth 100000
set_option maxHeartbeats 4000000
/-! ### steps, over data -/
namespace GX
open PySem L2 PySem.Spec
abbrev natD (n : Nat) : D := .int (n : Int)
abbrev stD (s : GStep) : D := .tup [.str s.1, .tup (s.2.map natD)]
/-- a step passed: tuple or list, its indexes so too -/
def StV (y : D) (s : GStep) : Prop := ∃ zi, (y = .tup [.str s.1, zi] ∨ y = .lst [.str s.1, zi]) ∧ (zi = .tup (s.2.map natD) ∨ zi = .lst (s.2.map natD))
theorem natD_ints (l : List Nat) : l.map natD = (l.map fun n : Nat => (n : Int)).map .int := by rw [List.map_map]; rfl
/-- the tree of a step, with fuel -/
def trF (ss : List GStep) : Nat → Nat → D
  | 0, _ => .non
  | d + 1, i => match ss[i]? with
    | none => .non
    | some s => .tup (.str s.1 :: s.2.map (trF ss d))
theorem seth_two {h : Hs} {a b : Addr} {o u o' u' : DO} (n : a ≠ b) : seth (seth (seth (seth h a o) b u) a o') b u' = seth (seth h a o') b u' := by
  rw [seth_comm n.symm (o := u) (u := o'), seth_seth, seth_seth]
theorem strsD_at {zs : List Str} {i : Nat} {z : Str} (e : zs[i]? = some z) : (strsD zs)[i]? = some (.str z) := by rw [List.getElem?_map, e]; rfl
theorem natsD_at {zs : List Nat} {i : Nat} {z : Nat} (e : zs[i]? = some z) : (zs.map natD)[i]? = some (natD z) := by rw [List.getElem?_map, e]; rfl
end GX

set_option Elab.async false
set_option linter.all false
set_option maxRecDepth 100000
set_option maxHeartbeats 4000000
/-! ### max with a default, a dict of one pair, sorted keys, dict comprehensions -/
namespace GX
open PySem L2 PySem.Spec PyProof.Rows
def rMaxDef (K : PySem.W.Frag) : List V → List V → Hp → VK → Prop := fun xs zs H Q => ∃ (a : Addr) (ns : List Int) (d : Int), xs = [V.ref a] ∧ zs = [V.int d] ∧ SqL K H a (ns.map V.int) ∧
  (ns = [] → Q (.int d) H) ∧ ∀ m, m ∈ ns → (∀ k, k ∈ ns → k ≤ m) → Q (.int m) H
theorem foldl_max_mem : ∀ (ns : List Int) (n : Int), (ns.foldl max n = n ∨ ns.foldl max n ∈ ns) ∧ n ≤ ns.foldl max n ∧ ∀ k ∈ ns, k ≤ ns.foldl max n
  | [], n => ⟨.inl rfl, Int.le_refl _, fun k h => nomatch h⟩
  | a :: ns, n => by
    obtain ⟨h1, h2, h3⟩ := foldl_max_mem ns (max n a)
    rw [List.foldl_cons]
    refine ⟨?_, by omega, fun k hk => ?_⟩
    · rcases h1 with h | h
      · rw [h]
        by_cases q : n ≤ a
        · exact .inr (by rw [Int.max_eq_right q]; exact List.mem_cons_self ..)
        · exact .inl (Int.max_eq_left (by omega))
      · exact .inr (List.mem_cons_of_mem _ h)
    · rcases List.mem_cons.mp hk with h | h
      · subst h; omega
      · exact h3 k h
theorem depthAll_ints (ns : List Int) : PyData.depthAll (ns.map .int) ≤ 1 := by
  induction ns with
  | nil => exact Nat.zero_le _
  | cons n ns ih =>
    rw [List.map_cons, PyData.depthAll, PyData.depth]
    omega
section
variable {X : Cx} {K : PySem.W.Frag}
theorem cr_maxDef (hK : X.K = K) (hc : X.calm = true) (hu : X.A.units + 65 < cLine) : CallRK X (.builtin "max") [Str.ofString "default"] (rMaxDef K) := by
  subst hK
  intro pins s σ H xs zs us ws Q I r rz ⟨a, ns, d, ex, ez, sq, q0, q1⟩
  subst ex
  subst ez
  obtain rfl := Vals.ref1 r
  obtain ⟨w1, rfl, e1⟩ := vals1 rz
  obtain ⟨its, rv, pl, _⟩ := I.list sq
  have hi : IntsAre its ns := rv.ints
  have hd := depthAll_ints ns
  show wpAny _ _ (call (.builtin "max") [.ref a] [(Str.ofString "default", w1)]) _ _ _
  refine PySem.W.max_list_default (I.ok.hd hc) pl.isList (ints_readAll _ hi) ⟨?_, ?_⟩ (by omega) ?_ ?_
  · intro x hx y hy
    obtain ⟨i, _, rfl⟩ := List.mem_map.mp hx
    obtain ⟨j, _, rfl⟩ := List.mem_map.mp hy
    rfl
  · intro x hx
    obtain ⟨i, _, rfl⟩ := List.mem_map.mp hx
    exact fun h => nomatch h
  · intro e0 h' tk hk
    exact ⟨.int d, H, I.kept hk, e1, q0 (List.map_eq_nil_iff.mp e0)⟩
  · intro y ys i v h' tk bs e0 ev rd hk
    cases ns with
    | nil => cases e0
    | cons n ns =>
      obtain ⟨rfl, rfl⟩ := List.cons.inj e0
      rw [PySem.W.maxD_ints] at rd
      obtain ⟨t, rfl, _⟩ := reads_int_inv rd
      obtain ⟨h1, h2, h3⟩ := foldl_max_mem ns n
      refine ⟨.int _, H, I.kept hk, ⟨_, rfl⟩, q1 _ ?_ ?_⟩
      · rcases h1 with h | h
        · rw [h]; exact List.mem_cons_self ..
        · exact List.mem_cons_of_mem _ h
      · intro k hk2
        rcases List.mem_cons.mp hk2 with h | h
        · subst h; exact h2
        · exact h3 k h
def rSortedDI : List V → Hp → VK → Prop := fun xs H Q => ∃ (a : Addr) (kvs : List (Key × V)) (ks : List Int), xs = [.ref a] ∧ Rd H a (.dK kvs) ∧ kvs.map (·.1) = ks.map Sum.inl ∧ ks.length < 1000 ∧
    ∀ (ys : List Int) (p : Addr), ys.Perm ks → ys.Pairwise (· ≤ ·) → H p = none → Q (.ref p) (upd H p (.lst (ys.map V.int)))
/-- sorted(d) of a dict whose keys are ints, any number of them -/
theorem call_sortedDI' (hcalm : X.calm = true) : CallR X (.builtin "sorted") rSortedDI := by
  intro pins s σ H xs us Q I r q
  obtain ⟨a, kvs, ks, ex, hd, hks, h64, q⟩ := q
  subst ex
  obtain ⟨u, eu, rx⟩ := vals1 r
  subst eu
  cases rx
  obtain ⟨z, lo, vs, rel, dd⟩ := dk_rd I.hok hd
  obtain ⟨ep, hat⟩ := dd.dictAt
  have hkeys : vs.map (·.1) = ks.map Sum.inl := rel.keys.symm.trans hks
  have hl : vs.length = ks.length := by
    have e := congrArg List.length hkeys
    rw [List.length_map, List.length_map] at e
    exact e
  have h16 : vs.length ≤ sizeLine := by rw [hl, sizeLine_eq]; omega
  refine Calls.call_function_entry PyProof.Rows.kind_sorted PyProof.Rows.plain_sorted PyProof.Rows.entry_sorted (PyProof.Rows.args_sorted1 _) ?_
  unfold Builtin.«sorted»
  refine wpAny_bind (m := checkCount "sorted" 1 1 _) (wpAny_pure ?_)
  refine wpAny_bind (PySem.W.kdu_collect (A := X.A.in1) (PySem.W.kdl_dict (knd := mixKind X.prog X.w) (kvs := vs) (ep := ep) lo) (I.ok.hd hcalm) hat h16 fun h' tk acc hk hacc => ?_)
  have hal : acc.toList.length = ks.length := by rw [Array.length_toList, hacc.1, hl]
  have hS : IntsAre acc.toList ks := ints_each hal fun j v e => by
    obtain ⟨k, x, e1, e2⟩ := hacc.2 j v (by rw [← Array.getElem?_toList]; exact e)
    have e3 : (vs.map (·.1))[j]? = some k := by rw [List.getElem?_map, e1]; rfl
    rw [hkeys, List.getElem?_map] at e3
    cases e4 : ks[j]? with
    | none => rw [e4] at e3; cases e3
    | some y =>
      rw [e4] at e3
      have e5 : Sum.inl y = k := Option.some.inj e3
      subst e5
      rcases keyIs_shape (show keyIs (Sum.inl y) v = true from e2) with ⟨i, t, ek, ev⟩ | ⟨z, t, ek, ev⟩
      · cases ek
        exact ⟨y, t, rfl, ev⟩
      · cases ek
  have I1 : Inv X pins σ H { s with heap := h', toks := tk } := I.kept hk
  refine wpAny_bind (wpAny_newList ?_ (by rw [hal, sizeLine_eq]; omega))
  have hoL : (h'.push (seqObj "list" acc.toList.toArray 0)).get? h'.objs.size = some (seqObj "list" acc.toList.toArray 0) := Heap.get?_push_size _ rfl
  show wpAny _ _ _ _ _ { s with heap := h'.push (seqObj "list" acc.toList.toArray 0), toks := tk }
  refine wpAny_bind (wpAny_holding (wpAny_call_entry PyProof.Rows.slot_list_sort ⟨_, hoL, rfl⟩ PyProof.Rows.entry_list_sort
    (SrtO.list_sort_ord (s := { s with heap := h'.push (seqObj "list" acc.toList.toArray 0), toks := tk }) SrtO.swo_int hoL (by rw [hal, sizeLine_eq]; omega) (fun h2 => SrtO.ints_sortable hS h2) fun out o1 o2 => ⟨_, rfl, ?_⟩) (PyProof.Rows.args_list_sort _)))
  obtain ⟨g1, g2, g3⟩ := SrtO.ints_out hS o1 o2
  obtain ⟨e', he'⟩ := PyProof.Rows.sortedHeap_at (vs := acc.toList) (out := out.toArray) hoL
  have hlen : ((out.map SrtO.iv).map V.int).length ≤ sizeLine := by
    rw [List.length_map, g2.length_eq, sizeLine_eq]
    omega
  refine wpAny_pure ⟨_, rfl, .ref h'.objs.size, upd H h'.objs.size (.lst ((out.map SrtO.iv).map V.int)), I1.laid (t' := tk) (fun b u e => ?_) (Nat.le_refl _)
    (show ObjOk X.prog X.w _ _ _ (.lst ((out.map SrtO.iv).map V.int)) from ⟨hlen, out, e', vals_of_ints g1, he'⟩), rfl, q _ _ g2 g3 (I1.hok.fresh (Nat.le_refl _))⟩
  have hb : b < h'.objs.size := Heap.lt_size e
  rw [PyProof.Rows.sortedHeap_old (Nat.ne_of_lt hb) (by rw [size_push']; exact Nat.lt_succ_of_lt hb)]
  exact Heap.get?_push_of_some _ e
end
section
variable {ρ : Rho} {h : Hs} {Q : QD} {K : PySem.W.Frag} {x : D} {tk tv : TE} {a b : TA}
theorem d_CKw {r : List V → List V → Hp → VK → Prop} (z : dA a ρ h fun xs h1 => dA b ρ h1 fun ys h2 => ∀ vs ws H Q', RelH h2 H → DxA (Fz h2 H) vs xs → DxA (Fz h2 H) ws ys → Post h2 H Q Q' → r vs ws H Q') : dE (tCKw r a b) ρ h Q := fun σ H Q' rl p =>
  z σ H _ rl fun xs h1 vs H1 q dx rh s => q σ H1 _ (rl.step rh s) fun ys h2 ws H2 q2 dy rh2 s2 => q2 vs ws H2 Q' rh2 (dx.mono s2) dy (p.step (s.trans s2))
theorem v_maxDef {ns : List Int} {d : Int} (hv : LsV h x (ns.map .int)) (q0 : ns = [] → Q (.int d) h) (q1 : ∀ m, m ∈ ns → (∀ k, k ∈ ns → k ≤ m) → Q (.int m) h) :
    ∀ vs ws H Q', RelH h H → DxA (Fz h H) vs [x] → DxA (Fz h H) ws [.int d] → Post h H Q Q' → rMaxDef K vs ws H Q' := by
  intro vs ws H Q' rh dx dy p
  cases dx with
  | cons d1 d2 =>
    cases d2
    cases dy with
    | cons e1 e2 =>
      cases e2
      cases e1
      obtain ⟨b, vs, rfl, e1, a1⟩ := hv.at rh d1
      have := a1.ints_inv
      subst this
      exact ⟨b, ns, d, rfl, rfl, .of e1, fun e => post_id p rh (.int _) (q0 e), fun m hm hk => post_id p rh (.int _) (q1 m hm hk)⟩
theorem v_sortedD {kds : List (Key × D)} {ks : List Int} (hv : DkV h x kds) (ek : kds.map (·.1) = ks.map Sum.inl) (few : ks.length < 1000) (q : ∀ ms : List Int, ms.Perm ks → ms.Pairwise (· ≤ ·) → Fresh (ms.map .int) h Q) : dRA rSortedDI [x] h Q := fun vs H Q' r dx p => by
  cases dx with
  | cons dx dn =>
    cases dn
    obtain ⟨b, kvs, rfl, e1, z⟩ := hv.at r dx
    exact ⟨b, kvs, ks, rfl, e1, z.ks.trans ek, few, fun ms l pm pw nl => (q ms pm pw).post p r nl (DxA.ints ms)⟩
/-- {k: v} -/
theorem d_disp1 (z : ∀ p, h p = none → dE tk ρ (seth h p (.dK [])) fun y h1 => h1 = seth h p (.dK []) ∧ dE tv ρ h1 fun d h2 => h2 = seth h p (.dK []) ∧ ∃ k, y = kD k ∧ Q (.ref p) (seth h p (.dK [(k, d)]))) : dE (tDisp [(tk, tv)]) ρ h Q := fun σ H Q' rl p q nq => by
  obtain ⟨r1, s1⟩ := rl.rh.newC (o := .dK []) (c := .dK []) nq ⟨[], upd_same, rfl, .nil⟩ (fun _ e => nomatch e)
  refine z q (rl.rh.no nq) σ _ _ (rl.step r1 s1) ?_
  rintro y h1 v H1 ⟨rfl, z1⟩ dy rh1 s2
  refine z1 σ H1 _ (rl.step rh1 (s1.trans s2)) ?_
  rintro d h2 w H2 ⟨rfl, k, rfl, z2⟩ dd rh2 s3
  have := dx_key_inv dy
  subst this
  obtain ⟨kvs, e0, ek, _⟩ := rh2.cell q _ seth_same
  have e1 : kvs = [] := List.map_eq_nil_iff.mp ek
  subst e1
  obtain ⟨r3, s4⟩ := rh2.write (o := .dK [(k, w)]) (c := .dK [(k, d)]) seth_same (fun _ e => nomatch e) (fun e => nomatch e) ⟨_, upd_same, rfl, .cons dd .nil⟩ (fun _ e => nomatch e)
  rw [seth_seth] at r3 s4
  exact ⟨e0, [(k, w)], rfl, Nat.le_of_ble_eq_true rfl, p _ _ _ _ z2 (.ref q) r3 (s1.trans (s2.trans (s3.trans s4)))⟩
/-- the turns of a dict comprehension -/
def dDcGo (g : TG) (tk tv : TE) (vs : List Nat) (ρ : Rho) (Q : QD) (ds : List D) (Sd : Hs → Prop) (h : Hs) : Prop :=
  ds.length ≤ 100000 ∧ ∃ Pv : Nat → List (Key × D) → Prop, Pv 0 [] ∧ (∀ p o, h p = none → Sd h → Sd (seth h p o)) ∧ Sd h ∧
    (∀ p i acc x, h p = none → ds[i]? = some x → Pv i acc → acc.length ≤ i → dG vs g x (wipeD ρ vs) (seth h p (.dK acc)) fun ρ1 h1 => h1 = seth h p (.dK acc) ∧
      dE tk ρ1 h1 fun y h3 => h3 = seth h p (.dK acc) ∧ dE tv ρ1 h3 fun d h4 => h4 = seth h p (.dK acc) ∧ ∃ k, y = kD k ∧ Pv (i + 1) (dput acc k d)) ∧
    (∀ acc, acc.length ≤ ds.length → Pv ds.length acc → Q (.dK acc) h)
theorem dput_len7 {κ : Type} [DecidableEq κ] (kds : List (κ × D)) (k : κ) (v : D) : (dput kds k v).length ≤ kds.length + 1 := by
  unfold dput
  split
  · rw [List.length_map]; exact Nat.le_succ _
  · rw [List.length_append]; exact Nat.le_refl _
theorem d_dc {w : TI} {g : TG} {tk tv : TE} {vs : List Nat} (z : dI w ρ h fun ds Sd h1 => dDcGo g tk tv vs ρ Q ds Sd h1) : dE (tDc w g tYes tk tv vs) ρ h Q := fun σ H Q' rl0 p0 => by
  refine z σ H _ rl0 fun ds Sd J h1 H1 q rh1 s01 it D hD => ?_
  have rl1 := rl0.step rh1 s01
  have p1 := p0.step s01
  obtain ⟨hn, Pv, pv0, pS, pG, ps, pd⟩ := q
  obtain ⟨G, Y, wk, hG, hY⟩ := it
  have nD := rh1.no hD
  obtain ⟨r2, s2⟩ := rh1.newC (o := .dK []) (c := .dK []) hD ⟨[], upd_same, rfl, .nil⟩ (fun _ e => nomatch e)
  refine ⟨fun i m H' => m = ds.length - i ∧ i ≤ ds.length ∧ ∃ dac, Pv i dac ∧ dac.length ≤ i ∧ RelH (seth h1 D (.dK dac)) H' ∧ Sm h1 H1 (seth h1 D (.dK dac)) H', ⟨_, rfl, Nat.zero_le _, [], pv0, Nat.le_refl _, r2, s2⟩, ?_⟩
  rintro i m H' ⟨rfl, hi, dac, pv, dl, r, s⟩
  have g1 : G H' := hG _ H' r ⟨pS D _ nD pG, s⟩
  by_cases hlt : i < ds.length
  · refine .inr ⟨wk.goes i H' hlt g1, fun H' => ∃ dac, Pv (i + 1) dac ∧ dac.length ≤ i + 1 ∧ RelH (seth h1 D (.dK dac)) H' ∧ Sm h1 H1 (seth h1 D (.dK dac)) H', fun H' q => ⟨_, by omega, rfl, hlt, q⟩, fun x H2 y => ?_⟩
    obtain ⟨d, ed, dx, r3, s3⟩ := hY i _ H' x H2 r ⟨pS D _ nD pG, s⟩ (wk.yields i H' x H2 hlt g1 y)
    have q2 := ps D i dac d nD ed pv dl
    refine q2 _ H2 x _ ((rl1.step r3 (s.trans s3)).wipe vs) dx ?_
    rintro ρ4 h4 σ4 H4 ⟨rfl, q4⟩ r4 s4 l4 u4
    refine ⟨wipe_wipe (l4.trans (wipe_length σ vs)) fun i hi => u4 i hi, ?_⟩
    unfold tYes
    dsimp only
    rw [if_pos rfl]
    refine q4 σ4 H4 _ r4 ?_
    rintro y h5 v5 H5 ⟨rfl, q5⟩ dy r5 s5
    refine q5 σ4 H5 _ (r4.step r5 s5) ?_
    rintro e h6 v6 H6 ⟨rfl, k, rfl, q6⟩ de r6 s6
    have := dx_key_inv (dy.mono s6)
    subst this
    obtain ⟨kvs, c1, c2, c3⟩ := r6.cell D _ seth_same
    have zz : KDx (Fz (seth h1 D (.dK dac)) H6) kvs dac := ⟨c2, c3⟩
    have big : (100000 : Nat) < sizeLine := by decide
    have z5 := zz.put (k := k) de
    obtain ⟨r7, s7⟩ := r6.write (o := .dK (putK kvs k v6)) (c := .dK (dput dac k e)) seth_same (fun _ q => nomatch q) (fun q => nomatch q) ⟨_, upd_same, z5.ks, z5.vs⟩ (fun _ q => nomatch q)
    rw [seth_seth] at r7 s7
    refine ⟨kvs, k, rfl, c1, by rw [zz.len]; omega, dput dac k e, q6, Nat.le_trans (dput_len7 ..) (by omega), r7, s.trans (s3.trans (s4.trans (s5.trans (s6.trans s7))))⟩
  · have e : i = ds.length := by omega
    subst e
    refine .inl ⟨wk.stops H' g1, ?_⟩
    have q2 := pd dac dl pv
    obtain ⟨r3, s3, x3⟩ := Frz.ok (.dK seth_same rfl .id) r (.ref D)
    rw [delh_seth nD] at r3 s3 x3
    exact p1 _ _ _ _ q2 x3 r3 (s.trans s3)
end
end GX

set_option Elab.async false
set_option linter.all false
set_option maxRecDepth 100000
set_option maxHeartbeats 4000000
/-! ### the steps that one of them needs -/
namespace GX
open PySem L2 PySem.Spec
/-- what the step `last` needs -/
inductive Need (ss : List GStep) (last : Nat) : Nat → Prop
  | self : Need ss last last
  | part {n i : Nat} {s : GStep} : Need ss last n → ss[n]? = some s → i ∈ s.2 → Need ss last i
/-- .. is in a set that is closed from `at` upwards -/
def NeedUp (ss : List GStep) (last a : Nat) (l : List Nat) : Prop := last ∈ l ∧ (∀ k ∈ l, Need ss last k) ∧ ∀ (n : Nat) (s : GStep), n ∈ l → a ≤ n → ss[n]? = some s → ∀ i ∈ s.2, i ∈ l
theorem NeedUp.start {ss : List GStep} {last : Nat} : NeedUp ss last (last + 1) [last] := by
  refine ⟨List.mem_singleton.mpr rfl, fun k hk => by rw [List.mem_singleton.mp hk]; exact .self, fun n s hn hl => ?_⟩
  rw [List.mem_singleton.mp hn] at hl
  omega
theorem NeedUp.skip {ss : List GStep} {last a : Nat} {l : List Nat} (h : NeedUp ss last (a + 1) l) (n : a ∉ l) : NeedUp ss last a l :=
  ⟨h.1, h.2.1, fun m s hm hl => h.2.2 m s hm (by
    rcases Nat.eq_or_lt_of_le hl with e | e
    · subst e; exact absurd hm n
    · exact e)⟩
theorem NeedUp.add {ss : List GStep} {last a : Nat} {l l' : List Nat} {s : GStep} (h : NeedUp ss last (a + 1) l) (m : a ∈ l) (e : ss[a]? = some s) (lt : ∀ i ∈ s.2, i < a) (hl : ∀ k, k ∈ l' ↔ k ∈ l ∨ k ∈ s.2) : NeedUp ss last a l' := by
  refine ⟨(hl _).mpr (.inl h.1), fun k hk => ?_, fun n s' hn hn2 es i hi => ?_⟩
  · rcases (hl k).mp hk with q | q
    · exact h.2.1 k q
    · exact .part (h.2.1 a m) e q
  · rcases Nat.eq_or_lt_of_le hn2 with q | q
    · subst q
      rw [e] at es
      cases es
      exact (hl i).mpr (.inr hi)
    · rcases (hl n).mp hn with z | z
      · exact (hl i).mpr (.inl (h.2.2 n s' z q es i hi))
      · have := lt n z
        omega
theorem NeedUp.all {ss : List GStep} {last : Nat} {l : List Nat} (h : NeedUp ss last 0 l) (k : Nat) : k ∈ l ↔ Need ss last k := by
  refine ⟨h.2.1 k, fun n => ?_⟩
  induction n with
  | self => exact h.1
  | part _ es hi ih => exact h.2.2 _ _ ih (Nat.zero_le _) es _ hi
theorem Need.le {ss : List GStep} {last k : Nat} (lt : ∀ (n : Nat) (s : GStep), ss[n]? = some s → ∀ i ∈ s.2, i < n) (h : Need ss last k) : k ≤ last := by
  induction h with
  | self => exact Nat.le_refl _
  | part _ es hi ih => exact Nat.le_trans (Nat.le_of_lt (lt _ _ es _ hi)) ih
/-- ascending -/
abbrev Asc (l : List Nat) : Prop := l.Pairwise (· < ·)
theorem asc_eq : ∀ {l m : List Nat}, Asc l → Asc m → (∀ k, k ∈ l ↔ k ∈ m) → l = m
  | [], [], _, _, _ => rfl
  | [], b :: m, _, _, h => absurd ((h b).mpr (List.mem_cons_self ..)) (List.not_mem_nil)
  | a :: l, [], _, _, h => absurd ((h a).mp (List.mem_cons_self ..)) (List.not_mem_nil)
  | a :: l, b :: m, h1, h2, h => by
    have a1 := List.pairwise_cons.mp h1
    have a2 := List.pairwise_cons.mp h2
    have e : a = b := by
      rcases List.mem_cons.mp ((h a).mp (List.mem_cons_self ..)) with q | q
      · exact q
      · rcases List.mem_cons.mp ((h b).mpr (List.mem_cons_self ..)) with z | z
        · exact z.symm
        · have := a2.1 a q
          have := a1.1 b z
          omega
    subst e
    have : l = m := asc_eq a1.2 a2.2 fun k => by
      have hk := h k
      rw [List.mem_cons, List.mem_cons] at hk
      constructor
      · intro q
        rcases hk.mp (.inr q) with z | z
        · subst z
          have := a1.1 k q
          omega
        · exact z
      · intro q
        rcases hk.mpr (.inr q) with z | z
        · subst z
          have := a2.1 k q
          omega
        · exact z
    rw [this]
theorem asc_int {ms : List Int} {l : List Nat} (pw : ms.Pairwise (· < ·)) (h : ∀ k, k ∈ ms ↔ k ∈ l.map fun n : Nat => (n : Int)) : ∃ ns : List Nat, ms = ns.map (fun n : Nat => (n : Int)) ∧ Asc ns ∧ ∀ k, k ∈ ns ↔ k ∈ l := by
  have nn : ∀ k ∈ ms, ((k.toNat : Nat) : Int) = k := fun k hk => by
    obtain ⟨n, _, rfl⟩ := List.mem_map.mp ((h k).mp hk)
    rfl
  have e : ms = (ms.map Int.toNat).map fun n : Nat => (n : Int) := by
    rw [List.map_map]
    refine (List.map_id ms).symm.trans (List.map_congr_left fun k hk => ?_)
    exact (nn k hk).symm
  refine ⟨ms.map Int.toNat, e, ?_, fun k => ?_⟩
  · refine List.pairwise_map.mpr (pw.imp_of_mem fun {a b} ha hb hab => ?_)
    have := nn a ha
    have := nn b hb
    omega
  · constructor
    · intro hk
      obtain ⟨i, hi, rfl⟩ := List.mem_map.mp hk
      obtain ⟨n, hn, e⟩ := List.mem_map.mp ((h i).mp hi)
      subst e
      exact hn
    · intro hk
      exact List.mem_map.mpr ⟨(k : Int), (h k).mpr (List.mem_map_of_mem hk), rfl⟩
/-- the steps ns of ss alone, with new indexes -/
def prunedOf (ss : List GStep) (ns : List Nat) : List GStep := ns.map fun n => ((ss.getD n ("", [])).1, (ss.getD n ("", [])).2.map fun i => ns.idxOf i)
theorem StepsOk.of_get {ts : List Trip} : ∀ {ss : List GStep} {ks : List Str}, ss.length = ks.length → (∀ {n : Nat} {s : GStep}, ss[n]? = some s →
    ∃ t ∈ ts, s.1 = t.1 ∧ s.2.length = t.2.2.length ∧ ks[n]? = some t.2.1 ∧ ∀ (j : Nat) (p : Str), t.2.2[j]? = some p → ∃ i : Nat, s.2[j]? = some i ∧ i < n ∧ ks[i]? = some p) → StepsOk ts ss ks := by
  intro ss
  refine snoc_ind (P := fun ss => ∀ {ks : List Str}, ss.length = ks.length → (∀ {n : Nat} {s : GStep}, ss[n]? = some s →
    ∃ t ∈ ts, s.1 = t.1 ∧ s.2.length = t.2.2.length ∧ ks[n]? = some t.2.1 ∧ ∀ (j : Nat) (p : Str), t.2.2[j]? = some p → ∃ i : Nat, s.2[j]? = some i ∧ i < n ∧ ks[i]? = some p) → StepsOk ts ss ks) ?_ ?_ ss
  · intro ks hl h
    cases ks with
    | nil => exact .nil
    | cons _ _ => cases hl
  · intro ss s ih ks hl h
    rw [List.length_append] at hl
    have hk0 : ks ≠ [] := fun e => by subst e; cases hl
    obtain ⟨ks', k, rfl⟩ : ∃ ks' k, ks = ks' ++ [k] := ⟨ks.dropLast, ks.getLast hk0, (List.dropLast_concat_getLast hk0).symm⟩
    rw [List.length_append] at hl
    have hl2 : ss.length = ks'.length := Nat.add_right_cancel hl
    have h1 := ih (ks := ks') hl2 fun {n u} e => by
      have hn := (List.getElem?_eq_some_iff.mp e).1
      obtain ⟨t, tm, a, b, c, d⟩ := h (n := n) (s := u) (by rw [List.getElem?_append_left hn]; exact e)
      rw [List.getElem?_append_left (by omega)] at c
      refine ⟨t, tm, a, b, c, fun j p hp => ?_⟩
      obtain ⟨i, x, y, z⟩ := d j p hp
      rw [List.getElem?_append_left (by omega)] at z
      exact ⟨i, x, y, z⟩
    obtain ⟨t, tm, a, b, c, d⟩ := h (n := ss.length) (s := s) (by rw [List.getElem?_append_right (Nat.le_refl _), Nat.sub_self]; rfl)
    rw [List.getElem?_append_right (by omega), hl2, Nat.sub_self] at c
    cases c
    have es : s = (t.1, s.2) := by rw [← a]
    rw [es]
    refine .snoc h1 tm b fun j p hp => ?_
    obtain ⟨i, x, y, z⟩ := d j p hp
    rw [List.getElem?_append_left (by omega)] at z
    exact ⟨i, x, z⟩
section
variable {ts : List Trip} {ss : List GStep} {ks : List Str} {last : Nat} {ns : List Nat}
/-- ns: all that `last` needs, ascending -/
structure PrOk (ss : List GStep) (last : Nat) (ns : List Nat) : Prop where
  asc : Asc ns
  all : ∀ k, k ∈ ns ↔ Need ss last k
theorem asc_idx : ∀ {ns : List Nat}, Asc ns → ∀ {i j a b : Nat}, ns[i]? = some a → ns[j]? = some b → a < b → i < j := fun {ns} h {i j a b} ha hb hab => by
  rcases Nat.lt_trichotomy i j with q | q | q
  · exact q
  · subst q
    rw [ha] at hb
    cases hb
    omega
  · have h1 := (List.getElem?_eq_some_iff.mp ha)
    have h2 := (List.getElem?_eq_some_iff.mp hb)
    have := List.pairwise_iff_getElem.mp h j i h2.1 h1.1 q
    rw [h1.2, h2.2] at this
    omega
theorem idx_at {ns : List Nat} {a : Nat} (h : a ∈ ns) : ns[ns.idxOf a]? = some a := by
  rw [List.getElem?_eq_getElem (List.idxOf_lt_length_iff.mpr h)]
  simp
theorem asc_nodup {ns : List Nat} (h : Asc ns) : ns.Nodup := h.imp fun h => Nat.ne_of_lt h
theorem idx_of {ns : List Nat} (h : Asc ns) {i a : Nat} (e : ns[i]? = some a) : ns.idxOf a = i := by
  obtain ⟨hi, rfl⟩ := List.getElem?_eq_some_iff.mp e
  exact (asc_nodup h).idxOf_getElem i hi
theorem prunedOf_len : (prunedOf ss ns).length = ns.length := List.length_map ..
theorem prunedOf_at {i n : Nat} {s : GStep} (e : ns[i]? = some n) (es : ss[n]? = some s) : (prunedOf ss ns)[i]? = some (s.1, s.2.map fun j => ns.idxOf j) := by
  unfold prunedOf
  rw [List.getElem?_map, e]
  dsimp only [Option.map_some]
  rw [List.getD_eq_getElem?_getD, es]
  rfl
theorem PrOk.lt (h : PrOk ss last ns) (ok : StepsOk ts ss ks) (hl : last < ss.length) {n : Nat} (hn : n ∈ ns) : n < ss.length := by
  have := Need.le (fun n s e => ok.lt e) ((h.all n).mp hn)
  omega
theorem PrOk.steps (h : PrOk ss last ns) (ok : StepsOk ts ss ks) (hl : last < ss.length) : StepsOk ts (prunedOf ss ns) (ns.map fun n => ks.getD n "") := by
  refine .of_get (by rw [prunedOf_len, List.length_map]) fun {i u} e => ?_
  have hi := (List.getElem?_eq_some_iff.mp e).1
  rw [prunedOf_len] at hi
  have en := List.getElem?_eq_getElem hi
  have nm : ns[i] ∈ ns := List.getElem_mem hi
  have hn := h.lt ok hl nm
  have es := List.getElem?_eq_getElem hn
  rw [prunedOf_at en es] at e
  cases e
  obtain ⟨t, tm, a, b, c, d⟩ := ok.get es
  refine ⟨t, tm, a, by rw [List.length_map]; exact b, ?_, fun j p hp => ?_⟩
  · rw [List.getElem?_map, en]
    dsimp only [Option.map_some]
    rw [List.getD_eq_getElem?_getD, c]
    rfl
  · obtain ⟨x, x1, x2, x3⟩ := d j p hp
    have xm : x ∈ ns := (h.all x).mpr (.part ((h.all _).mp nm) es (List.mem_of_getElem? x1))
    refine ⟨ns.idxOf x, by rw [List.getElem?_map, x1]; rfl, asc_idx h.asc (idx_at xm) en x2, ?_⟩
    rw [List.getElem?_map, idx_at xm]
    dsimp only [Option.map_some]
    rw [List.getD_eq_getElem?_getD, x3]
    rfl
theorem PrOk.tree (h : PrOk ss last ns) (ok : StepsOk ts ss ks) (hl : last < ss.length) : ∀ (d i n : Nat), ns[i]? = some n → trF (prunedOf ss ns) d i = trF ss d n
  | 0, _, _, _ => rfl
  | d + 1, i, n, e => by
    have nm : n ∈ ns := List.mem_of_getElem? e
    have es := List.getElem?_eq_getElem (h.lt ok hl nm)
    unfold trF
    rw [prunedOf_at e es, es]
    dsimp only
    rw [List.map_map]
    congr 2
    refine List.map_congr_left fun x hx => ?_
    exact h.tree ok hl d _ _ (idx_at ((h.all x).mpr (.part ((h.all _).mp nm) es hx)))
/-- the size of a step's tree -/
theorem sizes_at (ok : StepsOk ts ss ks) : ∀ {n : Nat} {s : GStep}, ss[n]? = some s → (sizesOf ss)[n]? = some (1 + (s.2.map fun i => (sizesOf ss).getD i 0).sum) := by
  induction ok with
  | nil => intro n s e; cases e
  | @snoc ss ks t is ok tm hl hp ih =>
    intro n s e
    have hlen := sizesOf_len ss
    have old : ∀ {n : Nat} {s : GStep}, ss[n]? = some s → (s.2.map fun i => (sizesOf (ss ++ [(t.1, is)])).getD i 0) = s.2.map fun i => (sizesOf ss).getD i 0 := fun {n s} e => by
      refine List.map_congr_left fun i hi => ?_
      have := ok.lt e i hi
      have hn := (List.getElem?_eq_some_iff.mp e).1
      rw [sizesOf_app]
      unfold addSize
      rw [List.getD_eq_getElem?_getD, List.getElem?_append_left (by omega), List.getD_eq_getElem?_getD]
    by_cases hn : n < ss.length
    · rw [List.getElem?_append_left hn] at e
      rw [old e, ← ih e, sizesOf_app]
      unfold addSize
      rw [List.getElem?_append_left (by omega)]
    · have hn2 := (List.getElem?_eq_some_iff.mp e).1
      rw [List.length_append] at hn2
      have hn3 : n = ss.length := by
        have : n < ss.length + 1 := hn2
        omega
      subst hn3
      rw [List.getElem?_append_right (Nat.le_refl _), Nat.sub_self] at e
      cases e
      have inn : (is.map fun i => (sizesOf (ss ++ [(t.1, is)])).getD i 0) = is.map fun i => (sizesOf ss).getD i 0 := by
        refine List.map_congr_left fun i hi => ?_
        obtain ⟨j, hj⟩ := List.getElem?_of_mem hi
        have hj2 := (List.getElem?_eq_some_iff.mp hj).1
        obtain ⟨i', g1, g2⟩ := hp j t.2.2[j] (List.getElem?_eq_getElem (by omega))
        rw [hj] at g1
        cases g1
        have h3 := (List.getElem?_eq_some_iff.mp g2).1
        have h4 := ok.len
        rw [sizesOf_app]
        unfold addSize
        rw [List.getD_eq_getElem?_getD, List.getElem?_append_left (by omega), List.getD_eq_getElem?_getD]
      show _ = some (1 + (is.map fun i => (sizesOf (ss ++ [(t.1, is)])).getD i 0).sum)
      rw [inn, sizesOf_app]
      unfold addSize
      rw [List.getElem?_append_right (by omega), hlen, Nat.sub_self]
      rfl
theorem PrOk.size (h : PrOk ss last ns) (ok : StepsOk ts ss ks) (hl : last < ss.length) : ∀ (n i : Nat), ns[i]? = some n → (sizesOf (prunedOf ss ns))[i]? = (sizesOf ss)[n]? := by
  intro n
  induction n using Nat.strongRecOn with
  | ind n ih =>
    intro i e
    have nm : n ∈ ns := List.mem_of_getElem? e
    have hn := h.lt ok hl nm
    have es := List.getElem?_eq_getElem hn
    rw [sizes_at ok es, sizes_at (h.steps ok hl) (prunedOf_at e es)]
    show some (1 + ((ss[n].2.map fun j => ns.idxOf j).map fun i => (sizesOf (prunedOf ss ns)).getD i 0).sum) = _
    rw [List.map_map]
    congr 3
    refine List.map_congr_left fun x hx => ?_
    have xm : x ∈ ns := (h.all x).mpr (.part ((h.all _).mp nm) es hx)
    show (sizesOf (prunedOf ss ns)).getD (ns.idxOf x) 0 = _
    rw [List.getD_eq_getElem?_getD, List.getD_eq_getElem?_getD, ih x (ok.lt es x hx) _ (idx_at xm)]
/-- `last` stands last -/
theorem PrOk.end (h : PrOk ss last ns) (ok : StepsOk ts ss ks) : ns ≠ [] ∧ ns[ns.length - 1]? = some last := by
  have lm : last ∈ ns := (h.all _).mpr .self
  have hne : ns ≠ [] := fun e => by rw [e] at lm; cases lm
  have hp := List.length_pos_iff.mpr hne
  refine ⟨hne, ?_⟩
  have e0 := List.getElem?_eq_getElem (show ns.length - 1 < ns.length by omega)
  have m0 : ns[ns.length - 1] ∈ ns := List.getElem_mem _
  have le := Need.le (fun n s e => ok.lt e) ((h.all _).mp m0)
  rcases Nat.eq_or_lt_of_le le with q | q
  · rw [e0, q]
  · have := asc_idx h.asc e0 (idx_at lm) q
    have := List.idxOf_lt_length_iff.mpr lm
    omega
theorem PrOk.few (h : PrOk ss last ns) (ok : StepsOk ts ss ks) (hl : last < ss.length) : ns.length ≤ ss.length := by
  have hs : ns ⊆ List.range ss.length := fun n hn => List.mem_range.mpr (h.lt ok hl hn)
  have := (asc_nodup h.asc).length_le_of_subset hs
  rwa [List.length_range] at this
end
end GX

set_option Elab.async false
set_option linter.all false
set_option maxRecDepth 100000
set_option maxHeartbeats 4000000
/-! ### plain data that can be shown and compared -/
namespace GX
open PySem L2 PySem.Spec
structure Fine (d w : Nat) (x : D) : Prop where
  ok : okP x = true
  sh : (toP x).showable = true
  nd : (toP x).hasDict = false
  lay : (toP x).canLay0 = true
  int : (toP x).intsShort 24 = true
  dep : (toP x).depth ≤ d
  wt : (toP x).weight ≤ w
structure FineA (d w : Nat) (xs : List D) : Prop where
  ok : okPs xs = true
  sh : PyData.showableAll (toPs xs) = true
  nd : PyData.hasDictAll (toPs xs) = false
  lay : PyData.canLayAll0 (toPs xs) = true
  int : PyData.intsShortAll 24 (toPs xs) = true
  dep : PyData.depthAll (toPs xs) ≤ d
  wt : PyData.weightAll (toPs xs) ≤ w
section
variable {d w n : Nat} {x : D} {xs : List D}
theorem FineA.nil : FineA d w [] := ⟨rfl, rfl, rfl, rfl, rfl, Nat.zero_le _, Nat.zero_le _⟩
theorem FineA.cons {v : Nat} (h : Fine d v x) (t : FineA d w xs) : FineA d (v + 1 + w) (x :: xs) := by
  obtain ⟨a, b, c, e, f, g, i⟩ := h
  obtain ⟨a2, b2, c2, e2, f2, g2, i2⟩ := t
  refine ⟨?_, ?_, ?_, ?_, ?_, ?_, ?_⟩
  · rw [okPs, a, a2]; rfl
  · rw [toPs, PyData.showableAll, b, b2]; rfl
  · rw [toPs, PyData.hasDictAll, c, c2]; rfl
  · rw [toPs, PyData.canLayAll0, e, e2]; rfl
  · rw [toPs, PyData.intsShortAll, f, f2]; rfl
  · rw [toPs, PyData.depthAll]; exact Nat.max_le.mpr ⟨g, g2⟩
  · rw [toPs, PyData.weightAll]; omega
theorem FineA.all (h : ∀ x ∈ xs, Fine d w x) : FineA d (xs.length * (w + 1)) xs := by
  induction xs with
  | nil => exact .nil
  | cons x xs ih =>
    have := FineA.cons (h x (List.mem_cons_self ..)) (ih fun y hy => h y (List.mem_cons_of_mem _ hy))
    have e : (x :: xs).length * (w + 1) = w + 1 + xs.length * (w + 1) := by rw [List.length_cons, Nat.add_mul]; omega
    rw [e]
    exact this
theorem FineA.lst (h : FineA d w xs) : Fine (d + 1) w (.lst xs) := by
  obtain ⟨a, b, c, e, f, g, i⟩ := h
  refine ⟨?_, ?_, ?_, ?_, ?_, ?_, ?_⟩
  · rw [okP]; exact a
  · rw [toP, PyData.showable]; exact b
  · rw [toP, PyData.hasDict]; exact c
  · rw [toP, PyData.canLay0]; exact e
  · rw [toP, PyData.intsShort]; exact f
  · rw [toP, PyData.depth]; omega
  · rw [toP, PyData.weight]; exact i
theorem FineA.tup (h : FineA d w xs) : Fine (d + 1) w (.tup xs) := by
  obtain ⟨a, b, c, e, f, g, i⟩ := h
  refine ⟨?_, ?_, ?_, ?_, ?_, ?_, ?_⟩
  · rw [okP]; exact a
  · rw [toP, PyData.showable]; exact b
  · rw [toP, PyData.hasDict]; exact c
  · rw [toP, PyData.canLay0]; exact e
  · rw [toP, PyData.intsShort]; exact f
  · rw [toP, PyData.depth]; omega
  · rw [toP, PyData.weight]; exact i
theorem Fine.mono {d' w' : Nat} (h : Fine d w x) (hd : d ≤ d') (hw : w ≤ w') : Fine d' w' x := ⟨h.ok, h.sh, h.nd, h.lay, h.int, Nat.le_trans h.dep hd, Nat.le_trans h.wt hw⟩
theorem FineA.mono {d' w' : Nat} (h : FineA d w xs) (hd : d ≤ d') (hw : w ≤ w') : FineA d' w' xs := ⟨h.ok, h.sh, h.nd, h.lay, h.int, Nat.le_trans h.dep hd, Nat.le_trans h.wt hw⟩
theorem Fine.str {z : Str} (h : PyData.strOk z = true) : Fine 0 z.length (.str z) := ⟨rfl, rfl, rfl, by rw [toP, PyData.canLay0]; exact h, rfl, by rw [toP, PyData.depth]; exact Nat.le_refl _, by rw [toP, PyData.weight]; exact Nat.le_refl _⟩
theorem Fine.bl {z : Bool} : Fine 0 0 (.bl z) := ⟨rfl, rfl, rfl, rfl, rfl, by rw [toP, PyData.depth]; exact Nat.le_refl _, by rw [toP, PyData.weight]; exact Nat.le_refl _⟩
theorem Fine.non : Fine 0 0 .non := ⟨rfl, rfl, rfl, rfl, rfl, by rw [toP, PyData.depth]; exact Nat.le_refl _, by rw [toP, PyData.weight]; exact Nat.le_refl _⟩
theorem short24 {i : Int} (h : i.natAbs < 10 ^ 23) : (PyData.int i).intsShort 24 = true := by
  simp only [PyData.intsShort, decide_eq_true_eq]
  have e := PySem.int_text_length_le10 (k := 23) (by decide) h
  show (Str.ofString (toString i)).length ≤ 24
  rw [PySem.ofString_length]
  exact e
theorem Fine.intN {i : Int} (n : Nat) (hn : n ≤ 76) (h : i.natAbs < 2 ^ n) (h10 : i.natAbs < 10 ^ 23) : Fine 0 n (.int i) := by
  have hl : i.natAbs ≠ 0 → i.natAbs.log2 < n := fun h0 => (Nat.log2_lt h0).mpr h
  refine ⟨rfl, ?_, rfl, rfl, short24 h10, by rw [toP, PyData.depth]; exact Nat.le_refl _, ?_⟩
  · rw [toP, PyData.showable]
    refine decide_eq_true ?_
    by_cases h0 : i.natAbs = 0
    · rw [h0]; decide
    · have := hl h0; omega
  · rw [toP, PyData.weight]
    split
    · omega
    · rename_i h0
      have h1 : i ≠ 0 := fun e => h0 (by rw [e]; rfl)
      have := hl (by omega)
      omega
theorem Fine.int' {i : Int} (h : -999999999999 < i ∧ i < 999999999999) : Fine 0 40 (.int i) := by
  have e2 : (2 : Nat) ^ 40 = 1099511627776 := by decide
  have e10 : (10 : Nat) ^ 23 = 100000000000000000000000 := by decide
  exact .intN 40 (by decide) (by omega) (by omega)
theorem Fine.big {i : Int} (h : -10000000000000000000000 < i ∧ i < 10000000000000000000000) : Fine 0 76 (.int i) := by
  have e2 : (2 : Nat) ^ 76 = 75557863725914323419136 := by decide
  have e10 : (10 : Nat) ^ 23 = 100000000000000000000000 := by decide
  exact .intN 76 (by decide) (by omega) (by omega)
theorem Fine.nat {n : Nat} (h : n ≤ 1000000) : Fine 0 40 (natD n) := .int' (by omega)
theorem Fine.shOk (h : Fine d w x) (hd : d ≤ 150 := by decide) (hw : w ≤ 600000 := by decide) : shOk x := by
  refine ⟨h.ok, h.sh, h.nd, Nat.le_trans h.dep hd, ?_⟩
  have h2 := PyData.shown_le 24 (by decide) (toP x) (PyData.leavesShort_of_canLay0 24 _ h.lay h.int)
  have := h.wt
  omega
theorem Fine.cmp (h : Fine d w x) (hd : d ≤ 64 := by decide) : cmpOk x := by
  refine ⟨h.ok, ?_⟩
  unfold SeqAt.shaped
  rw [h.lay, decide_eq_true (Nat.le_trans h.dep hd)]
  rfl
theorem Fine.self (h : Fine d w x) : PyData.eqv (toP x) (toP x) = true := SeqAt.eqv_refl _ h.lay
end
theorem Fine.strs {zs : List Str} {n : Nat} (h : ∀ z ∈ zs, PyData.strOk z = true) (hl : ∀ z ∈ zs, z.length ≤ n) : FineA 0 (zs.length * (n + 1)) (strsD zs) := by
  have := FineA.all (xs := strsD zs) (d := 0) (w := n) fun x hx => by
    obtain ⟨z, hz, rfl⟩ := List.mem_map.mp hx
    exact (Fine.str (h z hz)).mono (Nat.le_refl _) (hl z hz)
  rwa [List.length_map] at this
theorem Fine.nats {zs : List Nat} (h : ∀ z ∈ zs, z ≤ 1000000) : FineA 0 (zs.length * 41) (zs.map natD) := by
  have := FineA.all (xs := zs.map natD) (d := 0) (w := 40) fun x hx => by
    obtain ⟨z, hz, rfl⟩ := List.mem_map.mp hx
    exact Fine.nat (h z hz)
  rwa [List.length_map] at this
theorem isNm_ok {z : Str} (h : isNm z = true) : PyData.strOk z = true := by
  unfold isNm at h
  have h2 := (Bool.and_eq_true_iff.mp h).2
  have a1 : ∀ c ∈ alphabet.cps.toList, c < 0x110000 := by decide +kernel
  unfold PyData.strOk
  rw [← Array.all_toList]
  exact List.all_eq_true.mpr fun c hc => decide_eq_true (a1 c (of_decide_eq_true (List.all_eq_true.mp h2 c hc)))
theorem isNm_len {z : Str} (h : isNm z = true) : z.length ≤ 8 := by
  unfold isNm at h
  have h2 := (Bool.and_eq_true_iff.mp (Bool.and_eq_true_iff.mp h).1).2
  have := of_decide_eq_true h2
  omega
theorem good_parts {ts : List Trip} (g : Good isNm ts) {t : Trip} (h : t ∈ ts) : ∀ z ∈ t.2.2, isNm z = true := fun z hz => by
  obtain ⟨u, hu, e⟩ := (mem_kindsOf _ _).mp (g.known t h z hz)
  rw [← e]
  exact (g.names u hu).2
/-- steps of names -/
structure StFine (ss : List GStep) : Prop where
  nm : ∀ s ∈ ss, isNm s.1 = true
  ix : ∀ s ∈ ss, s.2.length ≤ 3 ∧ ∀ i ∈ s.2, i ≤ 1000000
theorem StepsOk.fine {ts : List Trip} {ss : List GStep} {ks : List Str} (ok : StepsOk ts ss ks) (g : Good isNm ts) (h3 : ∀ t ∈ ts, t.2.2.length ≤ 3) (few : ss.length ≤ 1000) : StFine ss := by
  refine ⟨fun s hs => ?_, fun s hs => ?_⟩
  · obtain ⟨n, hn⟩ := List.getElem?_of_mem hs
    obtain ⟨t, tm, e, _⟩ := ok.get hn
    rw [e]
    exact (g.names t tm).1
  · obtain ⟨n, hn⟩ := List.getElem?_of_mem hs
    have hn2 := (List.getElem?_eq_some_iff.mp hn).1
    obtain ⟨t, tm, _, e, _⟩ := ok.get hn
    refine ⟨by rw [e]; exact h3 t tm, fun i hi => ?_⟩
    have := ok.lt hn i hi
    omega
theorem StFine.st {ss : List GStep} (h : StFine ss) {s : GStep} (hs : s ∈ ss) : Fine 2 200 (stD s) := by
  obtain ⟨h1, h2⟩ := h.ix s hs
  have a : FineA 0 (3 * 41) (s.2.map natD) := (Fine.nats h2).mono (Nat.le_refl _) (Nat.mul_le_mul_right _ h1)
  have b := ((Fine.str (isNm_ok (h.nm s hs))).mono (Nat.zero_le 1) (isNm_len (h.nm s hs)))
  exact (FineA.cons b (FineA.cons (a.tup) (FineA.nil (w := 0)))).tup.mono (by decide) (by decide)
theorem StFine.lst {ss : List GStep} (h : StFine ss) (few : ss.length ≤ 1000) : Fine 3 201000 (.lst (ss.map stD)) := by
  have := FineA.all (xs := ss.map stD) (d := 2) (w := 200) fun x hx => by
    obtain ⟨s, hs, rfl⟩ := List.mem_map.mp hx
    exact h.st hs
  rw [List.length_map] at this
  exact (this.lst).mono (Nat.le_refl _) (by omega)
/-- trees -/
def wtT : Nat → Nat
  | 0 => 0
  | d + 1 => 9 + 3 * (wtT d + 1)
theorem tree_fine {ss : List GStep} (h : StFine ss) : ∀ d i, Fine d (wtT d) (trF ss d i)
  | 0, _ => Fine.non
  | d + 1, i => by
    unfold trF
    cases e : ss[i]? with
    | none => exact Fine.non.mono (Nat.zero_le _) (Nat.zero_le _)
    | some s =>
      have hs := List.mem_of_getElem? e
      have a := FineA.all (xs := s.2.map (trF ss d)) (d := d) (w := wtT d) fun x hx => by
        obtain ⟨j, _, rfl⟩ := List.mem_map.mp hx
        exact tree_fine h d j
      rw [List.length_map] at a
      have b := ((Fine.str (isNm_ok (h.nm s hs))).mono (Nat.zero_le d) (isNm_len (h.nm s hs)))
      refine (FineA.cons b a).tup.mono (Nat.le_refl _) ?_
      have := Nat.mul_le_mul_right (wtT d + 1) (h.ix s hs).1
      show 8 + 1 + _ ≤ 9 + 3 * (wtT d + 1)
      omega
theorem trF_fuel {ss : List GStep} (lt : ∀ (n : Nat) (s : GStep), ss[n]? = some s → ∀ i ∈ s.2, i < n) : ∀ (n d : Nat), n < d → trF ss d n = trF ss (n + 1) n := by
  intro n
  induction n using Nat.strongRecOn with
  | ind n ih =>
    intro d hd
    cases d with
    | zero => cases hd
    | succ d =>
      unfold trF
      cases e : ss[n]? with
      | none => rfl
      | some s =>
        dsimp only
        congr 2
        refine List.map_congr_left fun i hi => ?_
        have hi2 := lt n s e i hi
        rw [ih i hi2 d (by omega), ih i hi2 n hi2]
end GX

set_option Elab.async false
set_option linter.all false
set_option maxRecDepth 100000
set_option maxHeartbeats 4000000
/-! ### rules for lists of naturals, sequences of either kind -/
namespace GX
open PySem L2 PySem.Spec
section
variable {h : Hs} {Q : QD} {K : PySem.W.Frag} {x d : D} {ds xs : List D} {n : Nat} {zs : List Nat} {i : Int}
theorem SqV.nats (hv : SqV h x (zs.map natD)) : SqV h x ((zs.map fun n : Nat => (n : Int)).map .int) := by rw [← natD_ints]; exact hv
theorem LsV.nats (hv : LsV h x (zs.map natD)) : LsV h x ((zs.map fun n : Nat => (n : Int)).map .int) := by rw [← natD_ints]; exact hv
theorem mem_cast : ((n : Int) ∈ zs.map fun n : Nat => (n : Int)) ↔ n ∈ zs := by
  constructor
  · intro h
    obtain ⟨m, hm, e⟩ := List.mem_map.mp h
    have : m = n := by omega
    exact this ▸ hm
  · exact fun h => List.mem_map_of_mem h
theorem w_inN (hv : SqV h x (zs.map natD)) (q : Q (.bl (decide (n ∈ zs))) h) : dR2 (rInG K) (.int (n : Int)) x h Q := w_inI hv.nats (by
  have e : decide ((n : Int) ∈ zs.map fun n : Nat => (n : Int)) = decide (n ∈ zs) := decide_eq_decide.mpr mem_cast
  rw [e]
  exact q)
theorem w_ninN (hv : SqV h x (zs.map natD)) (q : Q (.bl (!decide (n ∈ zs))) h) : dR2 (rNinG K) (.int (n : Int)) x h Q := w_ninI hv.nats (by
  have e : decide ((n : Int) ∈ zs.map fun n : Nat => (n : Int)) = decide (n ∈ zs) := decide_eq_decide.mpr mem_cast
  rw [e]
  exact q)
theorem v_indexN {m : Nat} (hv : LsV h x (zs.map natD)) (e : zs[n]? = some m) (nd : ∀ j, j < n → zs[j]? ≠ some m) (q : Q (.int (n : Int)) h) : dRM (rIndex K) x [.int (m : Int)] h Q := by
  refine v_indexI hv.nats (by rw [List.getElem?_map, e]; rfl) (fun j hj ej => ?_) q
  rw [List.getElem?_map] at ej
  cases e2 : zs[j]? with
  | none => rw [e2] at ej; cases ej
  | some k =>
    rw [e2] at ej
    have : k = m := by
      have : (k : Int) = m := Option.some.inj ej
      omega
    exact nd j hj (this ▸ e2)
theorem w_ixV (hv : SqV h x ds) (e : atI ds i = some d) (q : Q d h) : dR2 (rIx K) x (.int i) h Q := by
  rcases hv with hv | rfl
  · exact w_ixL hv e q
  · exact w_ixT e q
theorem g_seqV {gs : TGs} {W : List Nat} {ρ : Rho} {N : Rho → Hs → Prop} (hx : SqV h x xs) (hl : xs.length = n) (z : dGs W gs xs ρ h N) : dG W (gSeq K n gs) x ρ h N := by
  rcases hx with hx | rfl
  · exact g_seqL hx hl z
  · exact g_seqT hl z
/-- a sequence that is data -/
def Sq0 (x : D) (ds : List D) : Prop := x = .tup ds ∨ x = .lst ds
theorem Sq0.v (s : Sq0 x ds) : SqV h x ds := by
  rcases s with rfl | rfl
  · exact .t
  · exact .l
theorem x_seq0 {R : List D → (Hs → Prop) → Prop} (s : Sq0 x ds) (q : R ds fun _ => True) : ∃ es Sd, SqI h x es Sd ∧ R es Sd := by
  rcases s with rfl | rfl
  · exact x_seqT q
  · exact x_seqF q
theorem rng_down (n : Nat) : rngD (n : Int) (-1) ((n : Int) - (-1)).toNat = (List.range (n + 1)).map fun i => natD (n - i) := by
  have e : ((n : Int) - (-1)).toNat = n + 1 := by omega
  rw [e]
  unfold rngD
  refine List.map_congr_left fun i hi => ?_
  have := List.mem_range.mp hi
  show D.int _ = D.int _
  congr 1
  omega
end
theorem numD_map {α : Type} (f : α → D) (l : List α) (dflt : α) : numD (l.map f) = (List.range l.length).map fun i => .tup [natD i, f (l.getD i dflt)] := by
  refine List.ext_getElem? fun i => ?_
  by_cases hi : i < l.length
  · rw [numD_get (x := f l[i]) (by rw [List.getElem?_map, List.getElem?_eq_getElem hi]; rfl), List.getElem?_map, List.getElem?_range hi]
    dsimp only [Option.map_some]
    rw [List.getD_eq_getElem?_getD, List.getElem?_eq_getElem hi]
    rfl
  · rw [List.getElem?_eq_none (by rw [numD_len, List.length_map]; omega), List.getElem?_eq_none (by rw [List.length_map, List.length_range]; omega)]
/-! ### the keys of what is needed -/
def ndK (l : List Nat) : List (Key × D) := l.map fun n : Nat => (Sum.inl (n : Int), D.bl true)
theorem ndK_keys (l : List Nat) : (ndK l).map (·.1) = (l.map fun n : Nat => (n : Int)).map Sum.inl := by unfold ndK; rw [List.map_map, List.map_map]; rfl
theorem ndK_in (l : List Nat) (n : Nat) : (dval (ndK l) (Sum.inl (n : Int))).isSome = decide (n ∈ l) := by
  rw [dval_keys, ndK_keys]
  refine decide_eq_decide.mpr ?_
  constructor
  · intro h
    obtain ⟨i, hi, e⟩ := List.mem_map.mp h
    cases e
    exact mem_cast.mp hi
  · exact fun h => List.mem_map_of_mem (mem_cast.mpr h)
theorem ndK_put (l : List Nat) (n : Nat) : dput (ndK l) (Sum.inl (n : Int)) (.bl true) = ndK (if n ∈ l then l else l ++ [n]) := by
  by_cases h : n ∈ l
  · rw [if_pos h]
    unfold dput
    have : ((ndK l).any fun kv => decide (kv.1 = Sum.inl (n : Int))) = true := by
      refine List.any_eq_true.mpr ⟨(Sum.inl (n : Int), .bl true), List.mem_map_of_mem h, decide_eq_true rfl⟩
    rw [if_pos this]
    unfold ndK
    rw [List.map_map]
    refine List.map_congr_left fun m _ => ?_
    show (if _ then _ else _) = _
    split
    · rename_i e
      have e := e
      first | rw [e] | skip
      all_goals first | rfl | simp_all
    · rfl
  · rw [if_neg h]
    have e : dval (ndK l) (Sum.inl (n : Int)) = none := by
      have := ndK_in l n
      rw [decide_eq_false h] at this
      exact Option.not_isSome_iff_eq_none.mp (by rw [this]; exact Bool.false_ne_true)
    rw [dput_new _ e]
    unfold ndK
    rw [List.map_append]
    rfl
/-- the set while it grows -/
theorem nd_grow {l : List Nat} (nd : l.Nodup) (n : Nat) : (if n ∈ l then l else l ++ [n]).Nodup ∧ ∀ k, k ∈ (if n ∈ l then l else l ++ [n]) ↔ k ∈ l ∨ k = n := by
  by_cases h : n ∈ l
  · rw [if_pos h]
    exact ⟨nd, fun k => ⟨.inl, fun q => q.elim id fun e => e ▸ h⟩⟩
  · rw [if_neg h]
    refine ⟨List.nodup_append.mpr ⟨nd, by simp, fun a ha b hb e => ?_⟩, fun k => ?_⟩
    · rw [List.mem_singleton.mp hb] at e
      exact h (e ▸ ha)
    · rw [List.mem_append, List.mem_singleton]
theorem nd_few {l : List Nat} {m : Nat} (nd : l.Nodup) (h : ∀ k ∈ l, k < m) : l.length ≤ m := by
  have := nd.length_le_of_subset (l₂ := List.range m) fun k hk => List.mem_range.mpr (h k hk)
  rwa [List.length_range] at this
/-- keys sorted -/
theorem asc_of_perm {ms : List Int} {l : List Nat} (nd : l.Nodup) (pm : ms.Perm (l.map fun n : Nat => (n : Int))) (pw : ms.Pairwise (· ≤ ·)) : ∃ ns : List Nat, ms = ns.map (fun n : Nat => (n : Int)) ∧ Asc ns ∧ ∀ k, k ∈ ns ↔ k ∈ l := by
  refine asc_int ?_ fun k => pm.mem_iff
  have nd2 : ms.Nodup := pm.nodup_iff.mpr (List.pairwise_map.mpr (nd.imp fun {a b} hab => by omega))
  refine (pw.and nd2).imp fun {a b} hab => ?_
  have h1 := hab.1
  have h2 : a ≠ b := hab.2
  omega
theorem atI_last {α : Type} {xs : List α} {v : α} {n : Nat} (e : xs[n]? = some v) (hl : xs.length = n + 1) : atI xs (-1) = some v := by
  unfold atI ixN
  rw [if_neg (by decide), if_pos (by omega), hl]
  show xs[(-1 + ((n + 1 : Nat) : Int)).toNat]? = some v
  have : (-1 + ((n + 1 : Nat) : Int)).toNat = n := by omega
  rw [this, e]
theorem mem_take_idx {ns : List Nat} {i a b : Nat} (asc : Asc ns) (ha : ns[i]? = some a) (hb : b ∈ ns) (lt : b < a) : b ∈ ns.take i := by
  have h1 := asc_idx asc (idx_at hb) ha lt
  exact List.mem_of_getElem? (i := ns.idxOf b) (by rw [List.getElem?_take, if_pos h1]; exact idx_at hb)
end GX

set_option Elab.async false
set_option linter.all false
set_option maxRecDepth 100000
set_option maxHeartbeats 4000000
namespace GX
open PySem L2 PySem.Spec
theorem sizes_le {ts : List Trip} {ss : List GStep} {ks : List Str} (ok : StepsOk ts ss ks) (h3 : ∀ t ∈ ts, t.2.2.length ≤ 3) : ∀ (n sz : Nat), (sizesOf ss)[n]? = some sz → sz ≤ 4 ^ (n + 1) := by
  intro n
  induction n using Nat.strongRecOn with
  | ind n ih =>
    intro sz e
    have hn := (List.getElem?_eq_some_iff.mp e).1
    rw [sizesOf_len] at hn
    have es := List.getElem?_eq_getElem hn
    rw [sizes_at ok es] at e
    cases e
    obtain ⟨t, tm, _, el, _, _⟩ := ok.get es
    have lp := h3 t tm
    have hlt := ok.lt es
    generalize ss[n] = s at es el hlt
    have hb : ∀ i ∈ s.2, (sizesOf ss).getD i 0 ≤ 4 ^ n := fun i hi => by
      have h1 := hlt i hi
      have e2 := List.getElem?_eq_getElem (show i < (sizesOf ss).length by rw [sizesOf_len]; omega)
      rw [List.getD_eq_getElem?_getD, e2]
      exact Nat.le_trans (ih i h1 _ e2) (Nat.pow_le_pow_right (by decide) h1)
    have hs : ∀ l : List Nat, (∀ i ∈ l, (sizesOf ss).getD i 0 ≤ 4 ^ n) → (l.map fun i => (sizesOf ss).getD i 0).sum ≤ l.length * 4 ^ n := by
      intro l
      induction l with
      | nil => intro _; simp
      | cons a l ih =>
        intro h
        have h1 := h a (List.mem_cons_self ..)
        have h2 := ih fun i hi => h i (List.mem_cons_of_mem _ hi)
        rw [List.map_cons, List.sum_cons, List.length_cons, Nat.add_mul]
        omega
    have h1 := hs s.2 hb
    have h2 : s.2.length * 4 ^ n ≤ 3 * 4 ^ n := Nat.mul_le_mul_right _ (by omega)
    have h4 : 4 ^ (n + 1) = 4 * 4 ^ n := by rw [Nat.pow_succ, Nat.mul_comm]
    have h5 : 0 < 4 ^ n := Nat.pow_pos (by decide)
    omega
theorem mt_indexK {X : Cx} {K : PySem.W.Frag} (hK : X.K = K) : MtR X "list.index" (rIndex K) := hK ▸ mt_index
end GX

set_option Elab.async false
set_option linter.all false
set_option maxRecDepth 100000
set_option maxHeartbeats 4000000
/-! ### depths of steps, trees that are deep but small -/
namespace GX
open PySem L2 PySem.Spec
def mx0 (l : List Nat) : Nat := l.foldl max 0
def addDep (acc : List Nat) (s : GStep) : List Nat := acc ++ [1 + mx0 (s.2.map fun i => acc.getD i 0)]
def depthsOf (ss : List GStep) : List Nat := ss.foldl addDep []
theorem depthsOf_app (ss : List GStep) (s : GStep) : depthsOf (ss ++ [s]) = addDep (depthsOf ss) s := by
  unfold depthsOf
  rw [List.foldl_append]
  rfl
theorem foldl_max (l : List Nat) : ∀ n : Nat, (n ≤ l.foldl max n) ∧ (∀ k ∈ l, k ≤ l.foldl max n) ∧ (l.foldl max n = n ∨ l.foldl max n ∈ l) := by
  induction l with
  | nil => exact fun n => ⟨Nat.le_refl _, (fun k h => (nomatch h)), .inl rfl⟩
  | cons a l ih =>
    intro n
    obtain ⟨h1, h2, h3⟩ := ih (max n a)
    refine ⟨Nat.le_trans (Nat.le_max_left _ _) h1, fun k hk => ?_, ?_⟩
    · rcases List.mem_cons.mp hk with rfl | hk
      · exact Nat.le_trans (Nat.le_max_right _ _) h1
      · exact h2 k hk
    · rcases h3 with h3 | h3
      · rw [List.foldl_cons, h3]
        rcases Nat.le_total n a with q | q
        · rw [Nat.max_eq_right q]
          exact .inr List.mem_cons_self
        · rw [Nat.max_eq_left q]
          exact .inl rfl
      · exact .inr (List.mem_cons_of_mem _ h3)
theorem mx0_le {l : List Nat} {n : Nat} (h : ∀ k ∈ l, k ≤ n) : mx0 l ≤ n := by
  rcases (foldl_max l 0).2.2 with q | q
  · unfold mx0
    rw [q]
    exact Nat.zero_le _
  · exact h _ q
theorem le_mx0 {l : List Nat} {k : Nat} (h : k ∈ l) : k ≤ mx0 l := (foldl_max l 0).2.1 k h
theorem mx0_eq {l : List Nat} {m : Nat} (hm : m ∈ l) (h : ∀ k ∈ l, k ≤ m) : mx0 l = m := Nat.le_antisymm (mx0_le h) (le_mx0 hm)
section
variable {ss : List GStep} (lt : ∀ (n : Nat) (s : GStep), ss[n]? = some s → ∀ i ∈ s.2, i < n)
theorem depthsOf_len (ss : List GStep) : (depthsOf ss).length = ss.length := by
  revert ss
  refine snoc_ind rfl ?_
  intro ss s ih
  rw [depthsOf_app]
  unfold addDep
  rw [List.length_append, List.length_append, ih]
  rfl
theorem depthsOf_old (ss : List GStep) (s : GStep) (i : Nat) (h : i < ss.length) : (depthsOf (ss ++ [s])).getD i 0 = (depthsOf ss).getD i 0 := by
  have := depthsOf_len ss
  rw [depthsOf_app]
  unfold addDep
  rw [List.getD_eq_getElem?_getD, List.getElem?_append_left (by omega), List.getD_eq_getElem?_getD]
theorem depths_at0 : ∀ ss : List GStep, (∀ (n : Nat) (s : GStep), ss[n]? = some s → ∀ i ∈ s.2, i < n) → ∀ {n : Nat} {s : GStep}, ss[n]? = some s → (depthsOf ss).getD n 0 = 1 + mx0 (s.2.map fun i => (depthsOf ss).getD i 0) := by
  refine snoc_ind (P := fun ss => (∀ (n : Nat) (s : GStep), ss[n]? = some s → ∀ i ∈ s.2, i < n) → ∀ {n : Nat} {s : GStep}, ss[n]? = some s → (depthsOf ss).getD n 0 = 1 + mx0 (s.2.map fun i => (depthsOf ss).getD i 0)) ?_ ?_
  · intro _ n s e
    cases e
  · intro ss s0 ih lt n s e
    have hl := depthsOf_len ss
    have old : ∀ (n : Nat) (s : GStep), n ≤ ss.length → (∀ i ∈ s.2, i < n) → (s.2.map fun i => (depthsOf (ss ++ [s0])).getD i 0) = s.2.map fun i => (depthsOf ss).getD i 0 := fun n s hn h =>
      List.map_congr_left fun i hi => depthsOf_old ss s0 i (by have := h i hi; omega)
    by_cases hn : n < ss.length
    · have e2 := e
      rw [List.getElem?_append_left hn] at e2
      rw [depthsOf_old ss s0 n hn, old n s (by omega) (lt n s e)]
      exact ih (fun n s e3 => lt n s (by rw [List.getElem?_append_left (List.getElem?_eq_some_iff.mp e3).1]; exact e3)) e2
    · have hn2 := (List.getElem?_eq_some_iff.mp e).1
      rw [List.length_append] at hn2
      obtain rfl : n = ss.length := by
        have : n < ss.length + 1 := hn2
        omega
      have e2 := e
      rw [List.getElem?_append_right (Nat.le_refl _), Nat.sub_self] at e2
      cases e2
      rw [old _ s0 (Nat.le_refl _) (lt _ _ e), depthsOf_app]
      unfold addDep
      rw [List.getD_eq_getElem?_getD, List.getElem?_append_right (by omega), hl, Nat.sub_self]
      rfl
end
theorem depths_at {ss : List GStep} (lt : ∀ (n : Nat) (s : GStep), ss[n]? = some s → ∀ i ∈ s.2, i < n) {n : Nat} {s : GStep} (e : ss[n]? = some s) : (depthsOf ss).getD n 0 = 1 + mx0 (s.2.map fun i => (depthsOf ss).getD i 0) := depths_at0 ss lt e
theorem size_at {ts : List Trip} {ss : List GStep} {ks : List Str} (ok : StepsOk ts ss ks) {n : Nat} {s : GStep} (e : ss[n]? = some s) : (sizesOf ss).getD n 0 = 1 + (s.2.map fun i => (sizesOf ss).getD i 0).sum := by
  rw [List.getD_eq_getElem?_getD, sizes_at ok e]
  rfl
theorem le_sum {l : List Nat} {k : Nat} (h : k ∈ l) : k ≤ l.sum := by
  induction l with
  | nil => cases h
  | cons a l ih =>
    rw [List.sum_cons]
    rcases List.mem_cons.mp h with rfl | h
    · omega
    · have := ih h
      omega
/-- a step's tree, its depth, its size -/
theorem deep_fine {ts : List Trip} {ss : List GStep} {ks : List Str} (ok : StepsOk ts ss ks) (g : Good isNm ts) : ∀ (n d : Nat), n < d → n < ss.length →
    Fine ((depthsOf ss).getD n 0) (10 * (sizesOf ss).getD n 0 - 1) (trF ss d n) := by
  intro n
  induction n using Nat.strongRecOn with
  | ind n ih =>
    intro d hd hn
    obtain ⟨d, rfl⟩ : ∃ d', d = d' + 1 := ⟨d - 1, by omega⟩
    have es := List.getElem?_eq_getElem hn
    have hlt := ok.lt es
    obtain ⟨t, tm, e1, _⟩ := ok.get es
    generalize ss[n] = s at es hlt e1
    have nm : isNm s.1 = true := by rw [e1]; exact (g.names t tm).1
    rw [trF, es]
    dsimp only
    rw [depths_at (fun n s e => ok.lt e) es, size_at ok es]
    have kids : ∀ (l : List Nat), (∀ i ∈ l, i < n) → FineA (mx0 (s.2.map fun i => (depthsOf ss).getD i 0)) (10 * (l.map fun i => (sizesOf ss).getD i 0).sum) (l.map (trF ss d)) ∨ ¬ (∀ i ∈ l, i ∈ s.2) := by
      intro l
      induction l with
      | nil => exact fun _ => .inl (FineA.nil.mono (Nat.le_refl _) (Nat.zero_le _))
      | cons i l ihl =>
        intro hl
        by_cases hs : ∀ j ∈ i :: l, j ∈ s.2
        · refine .inl ?_
          have hi := hl i List.mem_cons_self
          have f1 := ih i hi d (by omega) (by omega)
          rcases ihl fun j hj => hl j (List.mem_cons_of_mem _ hj) with f2 | f2
          · have hd1 : (depthsOf ss).getD i 0 ≤ mx0 (s.2.map fun i => (depthsOf ss).getD i 0) := le_mx0 (List.mem_map.mpr ⟨i, hs i List.mem_cons_self, rfl⟩)
            have pos : 0 < (sizesOf ss).getD i 0 := by
              have hi2 : i < ss.length := by omega
              rw [size_at ok (List.getElem?_eq_getElem hi2)]
              omega
            refine (FineA.cons (f1.mono hd1 (Nat.le_refl _)) f2).mono (Nat.le_refl _) ?_
            rw [List.map_cons, List.sum_cons]
            omega
          · exact absurd (fun j hj => hs j (List.mem_cons_of_mem _ hj)) f2
        · exact .inr hs
    rcases kids s.2 hlt with f | f
    · have f1 : Fine (mx0 (s.2.map fun i => (depthsOf ss).getD i 0)) 8 (.str s.1) := (Fine.str (isNm_ok nm)).mono (Nat.zero_le _) (isNm_len nm)
      refine (FineA.cons f1 f).tup.mono (by omega) ?_
      omega
    · exact absurd (fun i hi => hi) f
theorem sizes_two {ts : List Trip} {ss : List GStep} {ks : List Str} (ok : StepsOk ts ss ks) (h2 : ∀ t ∈ ts, t.2.2.length ≤ 2) : ∀ n : Nat, n < ss.length → (sizesOf ss).getD n 0 + 1 ≤ 2 ^ (n + 1) := by
  intro n
  induction n using Nat.strongRecOn with
  | ind n ih =>
    intro hn
    have es := List.getElem?_eq_getElem hn
    have hlt := ok.lt es
    obtain ⟨t, tm, _, el, _⟩ := ok.get es
    have l2 := h2 t tm
    rw [size_at ok es]
    generalize ss[n] = s at es hlt el
    have one : ∀ i ∈ s.2, (sizesOf ss).getD i 0 + 1 ≤ 2 ^ n := fun i hi => by
      have h := ih i (hlt i hi) (by have := hlt i hi; omega)
      exact Nat.le_trans h (Nat.pow_le_pow_right (by decide) (hlt i hi))
    have p1 : 1 ≤ 2 ^ n := Nat.one_le_two_pow
    rw [Nat.pow_succ]
    obtain ⟨c, l⟩ := s
    dsimp only at el one ⊢
    match l, el with
    | [], _ => simp; omega
    | [i], _ =>
      have := one i (by simp)
      simp only [List.map_cons, List.map_nil, List.sum_cons, List.sum_nil]
      omega
    | [i, j], _ =>
      have a := one i (by simp)
      have b := one j (by simp)
      simp only [List.map_cons, List.map_nil, List.sum_cons, List.sum_nil]
      omega
    | _ :: _ :: _ :: _, el => simp at el; omega
end GX

set_option Elab.async false
set_option linter.all false
set_option maxRecDepth 100000
set_option maxHeartbeats 4000000
/-! ### max and min of one list -/
namespace GX
open PySem L2 PySem.Spec PyProof.Rows
theorem cr_max1K {X : Cx} {K : PySem.W.Frag} (hK : X.K = K) (hc : X.calm = true) : CallR X (.builtin "max") (rMax K) := hK ▸ cr_max hc
theorem cr_min1K {X : Cx} {K : PySem.W.Frag} (hK : X.K = K) (hc : X.calm = true) : CallR X (.builtin "min") (rMin K) := hK ▸ cr_min hc
section
variable {h : Hs} {Q : QD} {K : PySem.W.Frag} {x : D}
theorem v_max1 {ns : List Int} (hv : LsV h x (ns.map .int)) (ne : 0 < ns.length) (q : ∀ m, m ∈ ns → (∀ k, k ∈ ns → k ≤ m) → Q (.int m) h) : dRA (rMax K) [x] h Q := fun vs H Q' r dx p => by
  cases dx with
  | cons dx dn =>
    cases dn
    obtain ⟨b, vs, rfl, e1, a1⟩ := hv.at r dx
    have := a1.ints_inv
    subst this
    exact ⟨b, ns, rfl, .of e1, ne, fun m h1 h2 => post_id p r (.int _) (q m h1 h2)⟩
theorem v_min1 {ns : List Int} (hv : LsV h x (ns.map .int)) (ne : 0 < ns.length) (q : ∀ m, m ∈ ns → (∀ k, k ∈ ns → m ≤ k) → Q (.int m) h) : dRA (rMin K) [x] h Q := fun vs H Q' r dx p => by
  cases dx with
  | cons dx dn =>
    cases dn
    obtain ⟨b, vs, rfl, e1, a1⟩ := hv.at r dx
    have := a1.ints_inv
    subst this
    exact ⟨b, ns, rfl, .of e1, ne, fun m h1 h2 => post_id p r (.int _) (q m h1 h2)⟩
end
section
variable {h : Hs} {Q : QD} {K : PySem.W.Frag} {xs : List D} {k : Int}
theorem DxA.repT {G : Hp} {vs : List V} {ds : List D} (a : DxA G vs ds) : ∀ n : Nat, DxA G (List.replicate n vs).flatten (List.replicate n ds).flatten
  | 0 => .nil
  | n + 1 => by
    rw [List.replicate_succ, List.replicate_succ, List.flatten_cons, List.flatten_cons]
    exact a.app (DxA.repT a n)
/-- xs * k of a tuple -/
theorem w_repT (ne : xs ≠ []) (h2 : 2 ≤ k) (h3 : k ≤ 1000) (hl : xs.length ≤ 1000) (q : Q (.tup (List.replicate k.toNat xs).flatten) h) : dR2 (rMulG K) (.tup xs) (.int k) h Q := dR2.ir (dR2.ir fun v w H Q' r dx dy p => by
  cases dy
  obtain ⟨a, us, rfl, e1, a1⟩ := tup_at dx
  refine ⟨a, k, us, rfl, rfl, .of e1, fun e => ?_, h2, h3, by rw [a1.len]; exact hl, fun l nl => post_newT p r nl (a1.repT _) q⟩
  subst e
  cases a1
  exact ne rfl)
end
theorem mx0_zero {l : List Nat} (h : ∀ k ∈ l, k ≤ 0) : mx0 l = 0 := Nat.le_zero.mp (mx0_le h)
end GX

set_option Elab.async false
set_option linter.all false
set_option maxRecDepth 100000
set_option maxHeartbeats 4000000
/-! ### tuple * 1 (the same tuple) -/
namespace GX
open PySem L2 PySem.Spec PyProof.Rows
theorem tuple_mul1 (l : Addr) (items : Array Value) (n : Nat) (dd : Option Addr) (sl : Array (Option Value)) (u : Tok) :
    Meets (Builtin.«tuple.__mul__» ⟨[.ref l, .int 1 u], []⟩) (fun _ R s => s.heap.get? l = some { cls := .type "tuple", dict := dd, data := .seq items n, slots := sl } ∧
      R (.ok (.ret (Value.ref l))) s) :=
  .of_wp fun prog w A R s h => by
    obtain ⟨hp, g, d, tk, os⟩ := s
    obtain ⟨hl, h⟩ := h
    have f1 := AutoSeq1.idx_int
    wp_walk using wpAny_loadPart' hl
    repeat (first
      | (refine wpAny_ite_false (decide_eq_false (by decide)) ?_; wp_walk using wpAny_loadPart' hl)
      | (refine wpAny_ite_true (decide_eq_true (by rw [beq_self_eq_true, Bool.or_true])) ?_; wp_walk using wpAny_loadPart' hl))
    exact ⟨_, rfl, h⟩
def rRepT1 (K : PySem.W.Frag) : R2 := fun x y H Q => ∃ l xs, x = .ref l ∧ y = .int 1 ∧ SqT K H l xs ∧ xs ≠ [] ∧ Q (.ref l) H
section
variable {X : Cx} {K : PySem.W.Frag}
theorem op_repT1 : OpR X (binaryOp .Mult) (rRepT1 X.K) := by
  intro pins s σ H x y v u Q I rx ry h
  obtain ⟨l, xs, rfl, rfl, hT, hne, q⟩ := h
  cases rx
  obtain ⟨t, rfl⟩ := ry
  obtain ⟨its, r, ⟨⟨cls, dd, data, sl⟩, ho, hc, n, hd⟩, hs⟩ := I.tuple hT
  simp only at hc hd
  subst hc hd
  refine wpAny_binaryOp_repeat_ref (T := "tuple") (U := "int") (by decide) ⟨_, ho, rfl⟩ (fun s' => typeIs_int s' 1 t) noFill_tuple_mul F.fills_int_mul F.slot_int_rmul repeat_tuple F.slot_int_index.lookup
    (call_meets F.slot_int_rmul (typeIs_int s 1 t) F.entry_int_rmul (F.args_int_rmul_2 _ _) (int_rmul_tuple 1 t l its.toArray n dd sl)
      ⟨ho, rfl, ⟨_, ho, rfl⟩, call_meets F.slot_tuple_mul ⟨_, ho, rfl⟩ F.entry_tuple_mul (F.args_tuple_mul_2 _ _) (tuple_mul1 l its.toArray n dd sl t) ⟨ho, ?_⟩⟩)
  exact ⟨.ref l, _, I, rfl, q⟩
def rMulH (K : PySem.W.Frag) : R2 := fun x y H Q => rMulG K x y H Q ∨ rRepT1 K x y H Q
theorem op_mulH (hK : X.K = K) : OpR X (binaryOp .Mult) (rMulH K) := hK ▸ OpR.or (op_mulG rfl) op_repT1
end
section
variable {h : Hs} {Q : QD} {K : PySem.W.Frag} {xs : List D} {k : Int} {i j : Int} {d x : D}
/-- xs * k of a tuple, k from 1 on -/
theorem w_repT1 (ne : xs ≠ []) (h1 : 1 ≤ k) (h3 : k ≤ 1000) (hl : xs.length ≤ 1000) (q : Q (.tup (List.replicate k.toNat xs).flatten) h) : dR2 (rMulH K) (.tup xs) (.int k) h Q := by
  by_cases e : k = 1
  · subst e
    refine dR2.ir fun v w H Q' r dx dy p => ?_
    cases dy
    obtain ⟨a, us, rfl, e1, a1⟩ := tup_at dx
    refine ⟨a, us, rfl, rfl, .of e1, fun e => ?_, ?_⟩
    · subst e
      cases a1
      exact ne rfl
    · have e2 : (List.replicate (1 : Int).toNat xs).flatten = xs := by
        show (List.replicate 1 xs).flatten = xs
        simp
      rw [e2] at q
      exact post_id p r dx q
  · exact dR2.il (w_repT ne (by omega) h3 hl q)
theorem w_mulIH (c : CMulW i j) (q : Q (.int (i * j)) h) : dR2 (rMulH K) (.int i) (.int j) h Q := dR2.il (w_mulI c q)
theorem w_rep1H (hx : LsV h x [d]) (hi : i ≤ 1000000 ∧ 0 ≤ i) (q : Fresh (List.replicate i.toNat d) h Q) : dR2 (rMulH K) x (.int i) h Q := dR2.il (w_rep1 hx hi q)
end
end GX

set_option Elab.async false
set_option linter.all false
set_option maxRecDepth 100000
set_option maxHeartbeats 4000000
/-! ### exceptions over data -/
namespace GX
open PySem L2 PySem.Spec PyProof.Rows

/-- an end by an exception: its class, its fields, the cells -/
abbrev XD := Addr → List (Str × D) → Hs → Prop
def ExcAt (h : Hs) (H : Hp) (cls : Value) (d : Option Addr) (C : Addr) (fs : List (Str × D)) : Prop :=
  cls = .ref C ∧ ∃ dd ws, d = some dd ∧ Fz h H dd = some (.xd ws) ∧ ws.map (·.1) = fs.map (·.1) ∧ DxA (Fz h H) (ws.map (·.2)) (fs.map (·.2))
def PostX (h : Hs) (H : Hp) (X : XD) (E : XK) : Prop := ∀ C fs h' H' cls d, X C fs h' → RelH h' H' → ExcAt h' H' cls d C fs → Sm h H h' H' → E cls d H'
theorem PostX.step {h h1 : Hs} {H H1 : Hp} {X : XD} {E : XK} (p : PostX h H X E) (s : Sm h H h1 H1) : PostX h1 H1 X E := fun C fs h' H' cls d x r e s' => p C fs h' H' cls d x r e (s.trans s')
abbrev TDX := List D → Hs → QD → XD → Prop
def spDX (t : TDX) : Sp := fun vs H Q' E' => ∃ ds h Q X, DxA (Fz h H) vs ds ∧ RelH h H ∧ t ds h Q X ∧ Post h H Q Q' ∧ PostX h H X E'
/-- what is wished of exceptions, from a frozen heap on -/
def Thr (X : XD) (W : WX) : Hp → Prop := fun G => ∀ C fs h' H' cls d σ, X C fs h' → RelH h' H' → ExcAt h' H' cls d C fs → SameU G (Fz h' H') → W cls d σ H'
theorem thr_mono {X : XD} {W : WX} {G G' : Hp} (s : SameU G G') (t : Thr X W G) : Thr X W G' := fun C fs h' H' cls d σ x r e s' => t C fs h' H' cls d σ x r e (s.trans s')
/-- with the locks let go -/
abbrev unk (h : Hs) (H0 H : Hp) : Hp := relk (fun a => (h a).isNone) H0 H
theorem unk_sameU {h : Hs} {H0 H : Hp} : SameU (Fz h H) (Fz h (unk h H0 H)) := by
  intro b o e
  obtain ⟨n, e⟩ := fz_some e
  rw [fz_out n]
  cases o with
  | frz p u =>
    rcases relk_frz (H0 := H0) (p := fun a => (h a).isNone) e with z | ⟨z, _, y⟩
    · exact ⟨_, z, rfl, fun _ _ => rfl⟩
    · refine ⟨u, z, ?_⟩
      cases u with
      | dK k => exact ⟨rfl, fun h1 _ => absurd rfl (h1 k)⟩
      | dT k => exact ⟨rfl, fun _ h2 => absurd rfl (h2 k)⟩
      | _ => cases y
  | _ => exact ⟨_, relk_plain e (fun _ _ z => nomatch z), rfl, fun _ _ => rfl⟩
theorem unk_cell {h : Hs} {H0 H : Hp} {a : Addr} {o : DO} (e : h a = some o) : unk h H0 H a = H a := by
  cases q : H a with
  | none => exact relk_none q
  | some v =>
    cases v with
    | frz p u =>
      unfold unk relk
      rw [q]
      dsimp only
      rw [if_neg (by rw [e]; exact Bool.false_ne_true)]
    | _ => exact relk_plain q (fun _ _ z => nomatch z)
theorem relH_unk {h : Hs} {H0 H : Hp} (r : RelH h H) : RelH h (unk h H0 H) :=
  ⟨fun a o e => (r.cell a o e).mono unk_sameU (unk_cell e) fun la q => unk_cell (r.src a la (q ▸ e)), r.src⟩
theorem excAt_unk {h : Hs} {H0 H : Hp} {cls : Value} {d : Option Addr} {C : Addr} {fs : List (Str × D)} (e : ExcAt h H cls d C fs) : ExcAt h (unk h H0 H) cls d C fs := by
  obtain ⟨e1, dd, ws, e2, e3, e4, e5⟩ := e
  exact ⟨e1, dd, ws, e2, unk_sameU.keep e3 (fun _ z => nomatch z) (fun _ z => nomatch z), e4, e5.monoU unk_sameU⟩
theorem unk_same {h0 h : Hs} {H0 H : Hp} (f : Frzs H0 H) (s : SameU (Fz h0 H0) (Fz h H)) : Same (Fz h0 H0) (Fz h (unk h H0 H)) := by
  intro b o e
  obtain ⟨o', e1, u1, k1⟩ := s b o e
  obtain ⟨_, e0⟩ := fz_some e
  obtain ⟨n, e1⟩ := fz_some e1
  rw [fz_out n]
  have dict : isDct (some o) = true → unk h H0 H b = some o := by
    intro z
    cases o' with
    | frz p u =>
      have hu : u = o := by
        cases o with
        | dK k =>
          cases u with
          | dK k' => exact u1
          | dT k' => cases u1
          | _ => cases u1
        | dT k =>
          cases u with
          | dK k' => cases u1
          | dT k' => exact u1
          | _ => cases u1
        | _ => cases z
      subst hu
      unfold unk relk
      rw [e1]
      dsimp only
      rw [if_pos (by rw [e0, n, z]; rfl)]
    | dK k =>
      cases o with
      | dK k' => rw [← show HO.dK k = HO.dK k' from u1]; exact relk_plain e1 (fun _ _ z => nomatch z)
      | dT k' => cases u1
      | _ => cases z
    | dT k =>
      cases o with
      | dT k' => rw [← show HO.dT k = HO.dT k' from u1]; exact relk_plain e1 (fun _ _ z => nomatch z)
      | dK k' => cases u1
      | _ => cases z
    | _ =>
      cases o with
      | dK k' => cases u1
      | dT k' => cases u1
      | _ => cases z
  cases o with
  | dK k => exact dict rfl
  | dT k => exact dict rfl
  | frz p u =>
    have e2 := f b p u e0
    exact relk_keep e2 e0
  | _ =>
    have : o' = _ := k1 (fun _ z => nomatch z) (fun _ z => nomatch z)
    subst this
    exact relk_plain e1 (fun _ _ z => nomatch z)
/-- a def's caller's wish, as it stands at the def's entry -/
theorem thr_def {h0 : Hs} {H0 : Hp} {X : XD} {E : XK} (p : PostX h0 H0 X E) : Thr X (wDef H0 E) (Fz h0 H0) := fun C fs h' H' cls d σ x r e s f =>
  ⟨fun a => (h' a).isNone, p C fs h' (unk h' H0 H') cls d x (relH_unk r) (excAt_unk e) (unk_same f s)⟩
theorem dx_thr {X : XD} {W : WX} {G : Hp} (t : Thr X W G) : Dx G (.ref 0) (.fact (Thr X W)) := .fact t fun _ _ s z => thr_mono s z
/-- slots at the start; the last one is no name -/
def startG (N : List Str) (ds : List D) (φ : Hp → Prop) : Rho := (startD N ds).set (N.length - 1) (some (.fact φ))
section
variable {P : Program} {w : World} {K : PySem.W.Frag} {mg : Str → Option Value} {base : Heap}
/-- a def that may let exceptions out, over data -/
theorem okDX {x qual : Str} {st : Stmt} {f : Addr} {fd : FuncData} {N ps : List Str} {k : Nat} {t : TDX} {gn : Str} (F : Fun K x qual st f fd) (S : FnScope N ps (defScope st)) (len : ∀ ds h Q X, t ds h Q X → ds.length = ps.length)
    (hx : N[N.length - 1]? = some gn) (nv : ¬ Vis (defScope st) gn)
    (hbody : ∀ (cdv : Value) (A : Around) (outer : List Env) (s : Shared) (H : Hp) (E : XK), A.guards = some [] → Room k (A.deeper (envOfC qual (defScope st) s.heap.objs.size f cdv)) →
      ∃ tb, PSs (cxX P w K mg base N qual (defScope st) f cdv A outer s H E) (defBody st) tb ∧ ∀ ds h Q X, t ds h Q X → dS tb (endD Q) (startG N ds (Thr X (wDef H E))) h) :
    FnG P w K mg base (L2.CX P w) (k + 1) f fd ps (spDX t) := by
  refine okGX F S (fun vs H Q E ⟨ds, h, Q2, X, a, _, z, _⟩ => a.len.trans (len ds h Q2 X z)) fun cdv A outer s H vs Q E hg hr ⟨ds, h, Q2, X, a, rh, z, p, px⟩ => ?_
  obtain ⟨tb, hp, q⟩ := hbody cdv A outer s H E hg hr
  refine ⟨_, pss_ghost hp S.nd hx nv (.ref 0), ?_⟩
  have r0 := (rel_start (N := N) a rh).set (dx_thr (thr_def px)) (N.length - 1)
  exact q ds h Q2 X z _ H _ r0 ⟨fun ρ' h' σ' H' q r s => p _ h' _ H' q .non r.rh s, p, fun _ _ _ _ q => q.elim, fun _ _ _ _ q => q.elim⟩
/-- a promise without exceptions, as one with -/
theorem okDN {x qual : Str} {st : Stmt} {f : Addr} {fd : FuncData} {N ps : List Str} {k : Nat} {t : TD} (F : Fun K x qual st f fd) (S : FnScope N ps (defScope st)) (len : ∀ ds h Q, t ds h Q → ds.length = ps.length)
    (hbody : ∀ (cdv : Value) (A : Around) (outer : List Env) (s : Shared) (H : Hp) (E : XK), A.guards = some [] → L2H.RoomH k (A.deeper (envOfC qual (defScope st) s.heap.objs.size f cdv)) →
      ∃ tb, PSs (cxN CX0 P w K mg base N qual (defScope st) f cdv A outer s H E).nox (defBody st) tb ∧ ∀ ds h Q, t ds h Q → dS tb (endD Q) (startD N ds) h) : FnN P w K mg base CX0 (k + 1) f fd ps (spD t) := by
  refine okN F S (fun vs H Q E ⟨ds, h, Q2, a, _, z, _⟩ => a.len.trans (len ds h Q2 z)) fun cdv A outer s H vs Q E hg hr ⟨ds, h, Q2, a, rh, z, p⟩ => ?_
  obtain ⟨tb, hp, q⟩ := hbody cdv A outer s H E hg hr
  exact ⟨tb, hp, q ds h Q2 z _ H _ (rel_start a rh) ⟨fun ρ' h' σ' H' q r s => p _ h' _ H' q .non r.rh s, p, fun _ _ _ _ q => q.elim, fun _ _ _ _ q => q.elim⟩⟩
end
section
variable {ρ : Rho} {h : Hs} {H : Hp} {σ : L2.St} {Q : QD} {X : XD} {W : WX} {E : DEnds} {g : Nat} {t : TDX} {a ta : TA} {to : TE} {dvs : List V} {dds : List D}
theorem thr_at (r : Rel ρ h σ H) (e : ρ[g]? = some (some (.fact (Thr X W)))) : Thr X W (Fz h H) := by
  obtain ⟨v, _, d⟩ := r.sl g _ e
  cases d with
  | fact z _ => exact z
theorem postX_of (r : Rel ρ h σ H) (e : ρ[g]? = some (some (.fact (Thr X W)))) {σ' : L2.St} : PostX h H X (WE W σ') := fun C fs h' H' cls d x r' e' s => thr_at r e C fs h' H' cls d σ' x r' e' (sameU s)
theorem d_callX (e : ρ[g]? = some (some (.fact (Thr X W)))) (hd : ∀ G, DxA G dvs dds) (z : dA a ρ h fun xs h1 => t (xs ++ dds) h1 Q X) : dE (tCallX (spDX t) dvs (WE W) a) ρ h Q := fun σ H Q' rl p =>
  z σ H _ rl fun xs h1 vs H1 q dx rh s => ⟨xs ++ dds, h1, Q, X, dx.app (hd _), rh, q, p.step s, postX_of (rl.step rh s) e⟩
theorem d_methX {C : Addr} {m : Str} (e : ρ[g]? = some (some (.fact (Thr X W)))) (hd : ∀ G, DxA G dvs dds) (z : dE to ρ h fun x h1 => ∃ fs, InsV h1 x C fs ∧ fs.lookup m = none ∧ dA a ρ h1 fun xs h2 => t (x :: (xs ++ dds)) h2 Q X) :
    dE (tMethX C m (spDX t) dvs (WE W) to a) ρ h Q := fun σ H Q' rl p =>
  z σ H _ rl fun x h1 v H1 ⟨fs, i, l, q⟩ dx rh s => by
    obtain ⟨b, dx', ws, rfl, e1, a1, a2⟩ := i.at rh dx
    refine ⟨b, dx', ws, rfl, e1, lookup_no a1 l, q σ H1 _ (rl.step rh s) fun xs h2 vs H2 q2 dxs rh2 s2 => ?_⟩
    exact ⟨x :: (xs ++ dds), h2, Q, X, .cons (dx.mono s2) (dxs.app (hd _)), rh2, q2, p.step (s.trans s2), postX_of (rl.step rh2 (s.trans s2)) e⟩
theorem d_makeX {C : Addr} (e : ρ[g]? = some (some (.fact (Thr X W)))) (hd : ∀ G, DxA G dvs dds) (z : dA a ρ h fun xs h1 => ∀ o, h1 o = none → t (.ref o :: (xs ++ dds)) (seth h1 o (.ins C [])) (fun v h2 => v = .non ∧ Q (.ref o) h2) X) : dE (tMakeX C (spDX t) dvs (WE W) a) ρ h Q := fun σ H Q' rl p =>
  z σ H _ rl fun xs h1 vs H1 q dxs rh s o dx no ndx ne => by
    obtain ⟨r1, s1⟩ := rh.newF (o := .own o) ndx
    have no1 : upd H1 dx (.own o) o = none := by rw [upd_ne ne.symm]; exact no
    obtain ⟨r2, s2⟩ := r1.newC (o := .ins C dx []) (c := .ins C []) no1 ⟨dx, [], upd_same, rfl, .nil⟩ (fun _ q => nomatch q)
    have sA := s1.trans s2
    refine ⟨.ref o :: (xs ++ dds), _, _, X, .cons (.ref o) ((dxs.mono sA).app (hd _)), r2, q o (rh.no no), ?_, postX_of (rl.step r2 (s.trans sA)) e⟩
    rintro d h' v H' ⟨rfl, q2⟩ dv r' s'
    cases dv
    exact ⟨rfl, p _ h' _ H' q2 (.ref o) r' (s.trans (sA.trans s'))⟩
/-! ### exceptions made -/
/-- the fields behind C.__init__(self, a, ..): self.a = a, .. behind the base's -/
def excF {α : Type} (wd : α) (ns : List Str) (xs : List α) : List (Str × α) := (ns.zip xs).reverse ++ [(("word" : Str), wd)]
/-- the promise of such an __init__ -/
def spI (C : Addr) (wd : Str) (ns : List Str) : Sp := fun vs H Q _ => ∃ (a : Addr) (ys : List V), vs = .ref a :: ys ∧ ys.length = ns.length ∧ H a = some (exo a C none) ∧
  ∀ dx H', H dx = none → dx ≠ a → H' a = some (exo a C (some dx)) → H' dx = some (exd dx (excF (.str wd) ns ys)) → (∀ b, b ≠ a → b ≠ dx → H' b = H b) → Q .non H'
/-- .. and of the base's: self.word = word -/
def spB (K : PySem.W.Frag) : Sp := fun vs H Q _ => ∃ (a C : Addr) (y : V), vs = [.ref a, y] ∧ OxC K C ∧ PySem.W.findIn K (.ref C) "word" = some none ∧ H a = some (exo a C none) ∧
  ∀ dx, H dx = none → dx ≠ a → Q .non (upd (upd H dx (exd dx [("word", y)])) a (exo a C (some dx)))
theorem zip_dx {G : Hp} : ∀ {ns : List Str} {vs : List V} {ds : List D}, DxA G vs ds → (ns.zip vs).map (·.1) = (ns.zip ds).map (·.1) ∧ DxA G ((ns.zip vs).map (·.2)) ((ns.zip ds).map (·.2))
  | [], _, _, _ => ⟨by simp, by simp; exact .nil⟩
  | n :: ns, _, _, .nil => ⟨rfl, .nil⟩
  | n :: ns, _, _, .cons d a => by
    obtain ⟨h1, h2⟩ := zip_dx (ns := ns) a
    exact ⟨by rw [List.zip_cons_cons, List.zip_cons_cons, List.map_cons, List.map_cons, h1], .cons d h2⟩
theorem excF_dx {G : Hp} {wd : Str} {ns : List Str} {vs : List V} {ds : List D} (a : DxA G vs ds) : (excF (.str wd) ns vs).map (·.1) = (excF (.str wd) ns ds).map (·.1) ∧ DxA G ((excF (.str wd) ns vs).map (·.2)) ((excF (.str wd) ns ds).map (·.2)) := by
  obtain ⟨h1, h2⟩ := zip_dx (ns := ns) a
  unfold excF
  refine ⟨?_, ?_⟩
  · rw [List.map_append, List.map_append, List.map_reverse, List.map_reverse, h1]
    rfl
  · rw [List.map_append, List.map_append, List.map_reverse, List.map_reverse]
    exact h2.rev.app (.one (.str wd))
theorem d_raise {C : Addr} {wd : Str} {ns : List Str} (e : ρ[g]? = some (some (.fact (Thr X W)))) (z : dA ta ρ h fun xs h1 => xs.length = ns.length ∧ xs.length ≤ 1000 ∧ X C (excF (.str wd) ns xs) h1) :
    dS (fun _ σ H => tMk C (spI C wd ns) ta σ H fun cls d H' => W cls d σ H') E ρ h := fun σ H E' rl p =>
  z σ H _ rl fun xs h1 vs H1 ⟨q1, q2, q3⟩ dx rh s => by
    refine ⟨by rw [dx.len]; exact q2, fun a na => ⟨a, vs, rfl, dx.len.trans q1, upd_same, fun d H' nd ne ea ed eo => ⟨rfl, d, _, ea, ed, ?_, ?_⟩⟩⟩
    · rw [upd_ne ne] at nd
      exact nd
    · rw [upd_ne ne] at nd
      have eH : upd (del H' a) d (.xd (excF (.str wd) ns vs)) = upd H1 d (.xd (excF (.str wd) ns vs)) := by
        funext b
        by_cases hb : b = d
        · subst hb; rw [upd_same, upd_same]
        · rw [upd_ne hb, upd_ne hb]
          by_cases ha : b = a
          · subst ha; rw [del_same, na]
          · rw [del_ne ha, eo b ha hb, upd_ne ha]
      rw [eH]
      obtain ⟨r2, s2⟩ := rh.newF (o := .xd (excF (.str wd) ns vs)) nd
      obtain ⟨k1, k2⟩ := excF_dx (wd := wd) (ns := ns) (dx.mono s2)
      refine thr_at (rl.step r2 (s.trans s2)) e C _ h1 _ _ _ σ q3 r2 ⟨rfl, d, _, rfl, by rw [fz_new rh nd, upd_same], k1, k2⟩ (sameU (Same.refl _))
end
end GX

set_option Elab.async false
set_option linter.all false
set_option maxRecDepth 100000
set_option maxHeartbeats 4000000
/-! ### closures over data -/
namespace GX
open PySem L2 PySem.Spec PyProof.Rows

section
variable (P : Program) (w : World) (K : PySem.W.Frag) (mg : Str → Option Value) (base : Heap)
/-- a closure's call, over data -/
def RunsD (k : Nat) (f : Addr) (h : Hs) (Q : QD) (X : XD) : Prop := ∀ H Q' E', RelH h H → Post h H Q Q' → PostX h H X E' → RunsV P w K mg base k f H Q' E'
end
section
variable {P : Program} {w : World} {K : PySem.W.Frag} {mg : Str → Option Value} {base : Heap}
  {ρ : Rho} {h : Hs} {H : Hp} {σ : L2.St} {Q Q1 : QD} {X X1 : XD} {W : WX} {E : DEnds} {g i j k : Nat} {t : TD} {a ta : TA} {te : TE} {f : Addr} {n : Str}
theorem RunsD.mono (z : RunsD P w K mg base k f h Q X) (q : ∀ x h', Q x h' → Q1 x h') (e : ∀ C fs h', X C fs h' → X1 C fs h') : RunsD P w K mg base k f h Q1 X1 := fun H Q' E' r p px =>
  z H Q' E' r (fun d h' v H' a => p d h' v H' (q _ _ a)) fun C fs h' H' cls d a => px C fs h' H' cls d (e _ _ _ a)
/-- try: return (ask(), ..) / except (A, B) as e: suite -/
theorem d_tryAsk {c1 c2 : Value} {ts : Addr → Value → Option Addr → TS} {Wout : WX} (hj : ρ[j]? = some (some (.ref f))) (run : RunsD P w K mg base k f h Q1 X1)
    (ok : ∀ x h1, Q1 x h1 → dA ta ρ h1 fun xs h2 => (x :: xs).length ≤ 1000000 ∧ E.rt (.tup (x :: xs)) h2)
    (bad : ∀ C fs h1, X1 C fs h1 → PySem.W.exmAny K (.ref C) [c1, c2] = some true ∧ ∀ a dd, h1 a = none → dS (ts a (.ref C) (some dd)) ⟨fun _ _ => False, E.rt, fun _ _ => False, fun _ _ => False⟩ (ρ.set i (some (.xc a dd C fs))) h1) :
    dS (fun D σ H => (tRet (tTup (tCons (tAsk P w K mg base k j (wAs2 K c1 c2 i ts Wout D)) ta))) D σ H) E ρ h := fun σ H E' rl p => by
  obtain ⟨v, ev, dv⟩ := rl.sl j _ hj
  cases dv
  refine ⟨f, ev, run H _ _ rl.rh (fun x h1 v H1 q dx rh s => ?_) (fun C fs h1 H1 cls d x rh e s => ?_)⟩
  · refine ok x h1 q σ H1 _ (rl.step rh s) fun xs h2 vs H2 ⟨q2, q3⟩ dxs rh2 s2 => ?_
    refine ⟨Nat.le_trans (by rw [List.length_cons, dxs.len, ← List.length_cons (a := x)]; exact q2) (by decide), fun q0 np => ?_⟩
    obtain ⟨r3, s3⟩ := rh2.newF (o := .tup (v :: vs)) np
    exact p.rt _ h2 _ _ q3 (.tup (by rw [fz_new rh2 np, upd_same]) (.cons (dx.mono (s2.trans s3)) (dxs.mono s3))) r3 (s.trans (s2.trans s3))
  · obtain ⟨rfl, dd, ws, rfl, e3, e4, e5⟩ := e
    obtain ⟨b1, b2⟩ := bad C fs h1 x
    refine ⟨true, b1, fun _ a na => ?_, fun z => Bool.noConfusion z⟩
    have r2 : Rel (ρ.set i (some (.xc a dd C fs))) h1 (σ.set i (some (.ref a))) H1 := (rl.step rh s).set (.xc e3 e4 e5) i
    exact b2 a dd (rh.no na) _ H1 _ r2 ⟨fun _ _ _ _ q => q.elim, p.rt.step s, fun _ _ _ _ q => q.elim, fun _ _ _ _ q => q.elim⟩
theorem d_xg {b dd C : Addr} {cls : Value} {d : Option Addr} (z : dE te ρ h fun x h1 => ∃ fs y, x = .xc b dd C fs ∧ cls = .ref C ∧ d = some dd ∧ XfC K C ∧ PySem.W.findIn K (.ref C) n = some none ∧ fs.lookup n = some y ∧ Q y h1) : dE (tXg K b cls d n te) ρ h Q := fun σ H Q' rl p =>
  z σ H _ rl fun x h1 v H1 ⟨fs, y, e0, e1, e2, T, hno, l, q⟩ dx rh s => by
    subst e0 e1 e2
    cases dx with
    | xc ed ek ev =>
      obtain ⟨w, l2, dw⟩ := lookup_dx ek ev l
      exact ⟨rfl, C, rfl, T, hno, dd, _, w, rfl, (fz_some ed).2, l2, p y h1 w H1 q dw rh s⟩
theorem d_xp (z : dE te ρ h fun x h1 => ∃ b dd C fs oe y, x = .xc b dd C fs ∧ h1 b = some (.pin oe) ∧ Zc (.ref C) (some dd) oe ∧ (∃ us, oe.data = .fields us) ∧ XfC K C ∧ PySem.W.findIn K (.ref C) n = some none ∧ fs.lookup n = some y ∧ Q y h1) : dE (tXp K n te) ρ h Q := fun σ H Q' rl p =>
  z σ H _ rl fun x h1 v H1 ⟨b, dd, C, fs, oe, y, e0, hp, hz, hf, T, hno, l, q⟩ dx rh s => by
    subst e0
    cases dx with
    | xc ed ek ev =>
      obtain ⟨w, l2, dw⟩ := lookup_dx ek ev l
      exact ⟨b, C, dd, oe, _, w, rfl, rh.cell b _ hp, hz, hf, T, hno, (fz_some ed).2, l2, p y h1 w H1 q dw rh s⟩
theorem one_out {b c : Addr} {o : Obj} (n : c ≠ b) : List.lookup c [(b, o)] = none := by
  rw [List.lookup_cons, beq_eq_false_iff_ne.mpr n]
  rfl
theorem pin1_in {b : Addr} {o : Obj} {H : Hp} : pinA [(b, o)] H b = some (pinO o b) := pinA_in (by simp)
theorem pin1_out {b c : Addr} {o : Obj} {H : Hp} (n : c ≠ b) : pinA [(b, o)] H c = H c := pinA_out (one_out n)
theorem fz_pin1 {b : Addr} {o : Obj} (nb : h b = none) (nH : H b = none) : Fz (seth h b (.pin o)) (pinA [(b, o)] H) = Fz h H := by
  funext c
  by_cases q : c = b
  · subst q
    rw [fz_in seth_same]
    exact (fz_none nH).symm
  · unfold Fz
    rw [seth_ne q, pin1_out q]
theorem relH_pin1 {b : Addr} {o : Obj} (r : RelH h H) (nb : h b = none) (nH : H b = none) : RelH (seth h b (.pin o)) (pinA [(b, o)] H) := by
  refine ⟨fun c u e => ?_, fun c la e => ?_⟩
  · rw [fz_pin1 nb nH]
    by_cases q : c = b
    · subst q
      rw [seth_same] at e
      cases e
      exact pin1_in
    · rw [seth_ne q] at e
      refine (r.cell c u e).mono (sameU (Same.refl _)) (pin1_out q) fun la z => pin1_out ?_
      rintro rfl
      rw [r.src c _ (z ▸ e)] at nb
      cases nb
  · by_cases q : c = b
    · subst q
      rw [seth_same] at e
      cases e
    · rw [seth_ne q] at e
      have z := r.src c la e
      rw [seth_ne]
      · exact z
      · rintro rfl
        rw [z] at nb
        cases nb
theorem relH_unpin1 {b : Addr} {o : Obj} (r : RelH (seth h b (.pin o)) H) (nb : h b = none) : RelH h (unpinA [(b, o)] H) ∧ Fz (seth h b (.pin o)) H = Fz h (unpinA [(b, o)] H) := by
  have e0 : H b = some (pinO o b) := r.cell b _ seth_same
  have e1 : H = pinA [(b, o)] (unpinA [(b, o)] H) := (pin_unpin (S := [(b, o)]) fun c o' z => by
    rw [List.lookup_cons] at z
    cases y : c == b with
    | true =>
      rw [y] at z
      cases z
      obtain rfl : c = b := by simpa using y
      exact e0
    | false => rw [y] at z; cases z).symm
  have nH : unpinA [(b, o)] H b = none := unpinA_in (o := o) (by simp)
  have eF : Fz (seth h b (.pin o)) H = Fz h (unpinA [(b, o)] H) := by
    have := fz_pin1 (o := o) nb nH
    rw [← e1] at this
    exact this
  refine ⟨⟨fun c u e => ?_, fun c la e => ?_⟩, eF⟩
  · have ne : c ≠ b := h_ne e nb
    have z := r.cell c u (by rw [seth_ne ne]; exact e)
    rw [eF] at z
    refine z.mono (sameU (Same.refl _)) (unpinA_out (one_out ne)) fun la q => unpinA_out (one_out ?_)
    have y := r.src c la (by rw [seth_ne ne, e, q])
    rintro rfl
    rw [seth_same] at y
    cases y
  · have ne : c ≠ b := h_ne e nb
    have y := r.src c la (by rw [seth_ne ne]; exact e)
    rw [seth_ne] at y
    · exact y
    · rintro rfl
      rw [seth_same] at y
      cases y
theorem d_callN {b : Addr} {cls : Value} {d : Option Addr} (z : dA ta ρ h fun xs h1 => h1 b = none ∧ ∀ oe, Zc cls d oe → (∃ us, oe.data = .fields us) → t xs (seth h1 b (.pin oe)) fun x h' => ∃ h2, h' = seth h2 b (.pin oe) ∧ h2 b = none ∧ Q x h2) :
    dE (tCallN (spD t) b cls d ta) ρ h Q := fun σ H Q' rl p =>
  z σ H _ rl fun xs h1 vs H1 ⟨n1, q⟩ dx rh s oe hz hf nb => by
    have e1 := fz_pin1 (o := oe) n1 nb
    refine ⟨xs, _, _, by rw [e1]; exact dx, relH_pin1 rh n1 nb, q oe hz hf, ?_⟩
    rintro x h' v H' ⟨h2, rfl, n2, q2⟩ dx' r' s'
    obtain ⟨r2, e2⟩ := relH_unpin1 r' n2
    unfold Sm at s'
    rw [e2] at dx' s'
    rw [e1] at s'
    exact p x h2 v _ q2 dx' r2 (s.trans s')
end
end GX

set_option Elab.async false
set_option linter.all false
set_option maxRecDepth 100000
set_option maxHeartbeats 4000000
/-! ### len(x), repr(x) by own methods -/
namespace GX
open PySem L2 PySem.Spec PyProof.Rows
section
variable {X : Cx} {K : PySem.W.Frag} {CX : CXT} {k : Nat} {C f : Addr} {fd : FuncData} {ps : List Str} {sp : Sp} {E : XK}
theorem roomIn1 {k : Nat} {A : Around} (r : Room (k + 1) A) : Room k A.in1 := ⟨r.hd, by have := r.dp; show A.depth + 3 * k + 5 < _; omega, by have := r.un; show A.units + 1 + 16 * k + 200 < _; omega⟩
/-- len(x) by the class's own __len__ -/
def rLenOwn (C : Addr) (sp : Sp) (E : XK) : List V → Hp → VK → Prop := fun xs H Q => ∃ a dx fs, xs = [.ref a] ∧ H a = some (.ins C dx fs) ∧ sp [.ref a] H (fun v H' => ∃ n : Int, v = .int n ∧ 0 ≤ n ∧ n < 2 ^ 63 ∧ Q (.int n) H') E
theorem call_lenOwn (M : Meth X.K C "__len__" f) (F : FnG X.prog X.w X.K X.mg X.base CX k f fd ps sp) (hG : X.A.guards = some []) (hr : Room (k + 1) X.A) (hb : Binds X.K fd ps []) (hx : Passes CX X E) : CallR X (.builtin "len") (rLenOwn C sp E) := by
  intro pins s σ H xs us Q I r h
  obtain ⟨a, dx, fs, rfl, ha, q⟩ := h
  obtain ⟨u, rfl, ru⟩ := vals1 r
  obtain rfl : u = Value.ref a := ru
  obtain ⟨mA, J, _⟩ := ins_get I.hok ha
  obtain ⟨od, J, _⟩ := J.look
  obtain ⟨m, hF⟩ := I.fr
  refine PySem.W.len_K hF I.ok.mod.kin J M.at_ M.fn ?_
  have e0 : Env0 X.prog X.w X.K X.mg X.base X.A.in1 X.stack s H := by
    have e := I.env0
    exact ⟨e.frames, e.mod, e.bs, e.bsz, e.funs, e.frf, e.hok, e.bare⟩
  have hl := F.len _ _ _ _ q
  have r2 : Vals [V.ref a] [Value.ref a] := .cons rfl .nil
  have b2 := hb s [.ref a] I.kIn (by rw [List.append_nil]; exact hl)
  rw [List.append_nil] at b2
  refine wpAny_call (codeAny_mono (F.run X.A.in1 X.stack s H ⟨[.ref a], []⟩ [.ref a] [.ref a] _ E hG (roomIn1 hr) e0 b2 r2 q) fun r s' hq => ?_)
  cases r with
  | error e => exact hx pins σ H s e s' I hq
  | ok fl =>
    cases fl with
    | ret w =>
      obtain ⟨z, H', I', rz, n, rfl, h0, h1, q'⟩ := I.after hq
      obtain ⟨t, rfl⟩ := rz
      exact ⟨⟨h0, h1⟩, .int n, H', I'.tok _, ⟨_, rfl⟩, q'⟩
    | next => exact False.elim hq
    | brk => exact False.elim hq
    | cont => exact False.elim hq
end
section
variable {K : PySem.W.Frag} {h : Hs} {Q : QD} {C a : Addr} {t : TD} {E : XK} {fs : List (Str × D)}
theorem v_lenOwn (hi : h a = some (.ins C fs)) (z : t [.ref a] h fun v h' => ∃ n : Int, v = .int n ∧ 0 ≤ n ∧ n < 2 ^ 63 ∧ Q (.int n) h') : dRA (rLenOwn C (spD t) E) [.ref a] h Q := fun vs H Q' r dx p => by
  cases dx with
  | cons d1 d2 =>
    cases d2
    cases d1
    obtain ⟨dd, gs, e1, _⟩ := r.cell a _ hi
    refine ⟨a, dd, gs, rfl, e1, [.ref a], h, _, .cons (.ref a) .nil, r, z, ?_⟩
    rintro d h' v H' ⟨n, rfl, n0, n1, q⟩ dv rh s
    cases dv
    exact ⟨n, rfl, n0, n1, p _ h' _ H' q (.int n) rh s⟩
end
/-- // by any divisor but 0 -/
def CDivWN (_ j : Int) : Prop := j ≠ 0 ∧ j.natAbs.log2 < 9000
theorem op_fdivWN {X : Cx} : OpR X (binaryOp .FloorDiv) (rI CDivWN fun i j => .int (i.fdiv j)) := opI fun _ _ _ _ _ _ _ hc q => floordiv_int hc.1 q (.inl (PyProof.noPylong_of_log2 hc.2))
theorem cdiv_of {i j : Int} {b : Nat} (n : j ≠ 0) (h : j.natAbs < 2 ^ b) (hb : b < 9000) : CDivWN i j := by
  have hn : j.natAbs ≠ 0 := by omega
  exact ⟨n, Nat.lt_trans ((Nat.log2_lt hn).mpr h) hb⟩
end GX

set_option Elab.async false
set_option linter.all false
set_option maxRecDepth 100000
set_option maxHeartbeats 4000000
/-! ### x *= y, x //= y, o.f += y -/
namespace GX
open PySem L2 PySem.Spec PyProof.Rows
section
variable {X : Cx}
theorem ip_mulW : PIp X .Mult (rI CMulW fun i j => .int (i * j)) := by
  intro pins s σ H x y v u Q I r1 r2 h
  obtain ⟨i, j, rfl, rfl, hc, q⟩ := h
  obtain ⟨t, rfl⟩ := r1
  obtain ⟨t', rfl⟩ := r2
  exact PyProof.Rows.imul_int ⟨.int _, H, I.tok _, ⟨_, rfl⟩, q⟩ hc.ok
theorem ip_fdivWN : PIp X .FloorDiv (rI CDivWN fun i j => .int (i.fdiv j)) := by
  intro pins s σ H x y v u Q I r1 r2 h
  obtain ⟨i, j, rfl, rfl, hc, q⟩ := h
  obtain ⟨t, rfl⟩ := r1
  obtain ⟨t', rfl⟩ := r2
  exact PyProof.Rows.ifloordiv_int hc.1 ⟨.int _, H, I.tok _, ⟨_, rfl⟩, q⟩ (.inl (PyProof.noPylong_of_log2 hc.2))
theorem ps_fldaugK {K : PySem.W.Frag} {o value : Expr} {f : Str} {pos tpos : Pos} {ta tv : TE} {op : Operator} {rd : V → V → Hp → VK → Prop} (hK : X.K = K) (ha : PE X o ta) (hv : PE X value tv) (hop : InOp X op rd) : PS X (.AugAssign (.Attribute o f tpos) op value pos) (sFldAug K ta tv rd f) := hK ▸ ps_fldaug ha hv hop
end
section
variable {K : PySem.W.Frag} {ρ : Rho} {h : Hs} {E : DEnds} {ta tv : TE}
theorem d_faug {f : Str} (z : dE ta ρ h fun x h1 => ∃ o C fs i, x = .ref o ∧ h1 o = some (.ins C fs) ∧ Cls K C ∧ NoAttr K C f ∧ fs.length < 1000 ∧ fs.lookup f = some (.int i) ∧ dE tv ρ h1 fun y h2 => ∃ j, y = .int j ∧ h1 = h2 ∧ E.nx ρ (seth h2 o (.ins C (putFD f (.int (i + j)) fs)))) : dS (sFldAug K ta tv rAdd f) E ρ h := fun σ H E' rl p =>
  z σ H _ rl fun x h1 v H1 ⟨o, C, fs, i, ex, e, c, n, l, lk, q⟩ dx rh s => by
    subst ex
    cases dx
    obtain ⟨dx', ws, e2, a1, a2⟩ := rh.cell o _ e
    obtain ⟨u, lk2, dv⟩ := lookup_dx a1 a2 lk
    cases dv
    refine ⟨o, C, dx', ws, _, rfl, e2, c, n, lk2, q σ H1 _ (rl.step rh s) fun y h2 w H2 ⟨j, ey, eh, q2⟩ dy rh2 s2 => ?_⟩
    subst ey
    subst eh
    cases dy
    refine ⟨i, j, rfl, rfl, ?_⟩
    obtain ⟨dx2, ws2, e3, b1, b2⟩ := rh2.cell o _ e
    have hl : ws2.length = fs.length := by
      have := congrArg List.length b1
      rwa [List.length_map, List.length_map] at this
    obtain ⟨c1, c2⟩ := putF_dx (f := f) (Dx.int (i + j)) b1 b2
    obtain ⟨r3, s3⟩ := rh2.write (o := .ins C dx2 (putF f (.int (i + j)) ws2)) (c := .ins C (putFD f (.int (i + j)) fs)) e (fun _ q => nomatch q) (fun q => nomatch q) ⟨dx2, _, upd_same, c1, c2⟩ (fun _ q => nomatch q)
    exact ⟨dx2, ws2, e3, by omega, p.nx _ _ σ _ q2 (rl.step r3 (s.trans (s2.trans s3))) (s.trans (s2.trans s3))⟩
end
section
variable {ρ : Rho} {h : Hs} {E : DEnds} {a : TA}
theorem d_par3 {i j l : Nat} (z : dA a ρ h fun xs h1 => ∃ x y w, xs = [x, y, w] ∧ E.nx (((ρ.set i (some x)).set j (some y)).set l (some w)) h1) : dS (tPar3 i j l a) E ρ h := fun σ H E' rl p =>
  z σ H _ rl fun xs h1 vs H1 q dx rh s => by
    obtain ⟨x, y, w, rfl, q⟩ := q
    cases dx with
    | cons d1 dx =>
      cases dx with
      | cons d2 dx =>
        cases dx with
        | cons d3 dx =>
          cases dx
          exact ⟨_, _, _, rfl, p.nx _ h1 _ H1 q ((((rl.step rh s).set d1 i).set d2 j).set d3 l) s⟩
end
end GX

set_option Elab.async false
set_option linter.all false
set_option maxRecDepth 100000
set_option maxHeartbeats 4000000
/-! ### (a, .., *b) = a tuple -/
namespace GX
open PySem L2 PySem.Spec PyProof.Rows PySem.W
section
variable {prog : Program} {w : World} {A : Around} {E : Value → Shared → Prop} {s : Shared}
theorem unpack_star {l : Addr} {items : Array Value} {i : Nat} {Q : List Value → Shared → Prop} (hl : IsTup s.heap l items) (hh : A.handled = none) (hi : i ≤ items.size) (hz : items.size ≤ sizeLine)
    (h : ∀ (h' : Heap) (tk : Nat), (∀ b o, s.heap.get? b = some o → h'.get? b = some o) → Q (items.toList.take i ++ [.ref h'.objs.size]) { s with heap := h'.push { cls := .type "list", data := .seq (items.toList.drop i).toArray }, toks := tk }) :
    wpAny (model prog w) A (unpackItems (.ref l) (i + 1) (some i)) Q E s := by
  have hlt : l ≠ s.heap.objs.size := by obtain ⟨o, ho, _⟩ := hl; exact Nat.ne_of_lt (Heap.lt_size ho)
  have hll : l < s.heap.objs.size := by obtain ⟨o, ho, _⟩ := hl; exact Heap.lt_size ho
  unfold unpackItems
  refine wpAny_bind ?_
  unfold notIterableAtAll
  refine wpAny_bind (wpAny_specialOf hl.typeIs slot_tuple_iter.lookup ?_)
  refine wpAny_pure ?_
  simp only [Bool.false_eq_true, if_false]
  refine wpAny_bind (wpAny_holding (iter_tuple hl ?_))
  refine wpAny_bind (wpAny_holding (draw_tuple hlt i 0 _ _ ⟨_, Heap.get?_push_size _ rfl, rfl, rfl⟩ (hl.push _) (by omega) fun h₁ hit₁ hs₁ => ?_))
  have hl₁ : IsTup h₁ l items := (hl.push _).extBut hs₁.extBut hlt
  rw [Nat.zero_add] at hit₁
  have hit₁' := hit₁
  obtain ⟨oi, hoi, _⟩ := hit₁'
  have hl₁' := hl₁
  obtain ⟨ol, hol, _⟩ := hl₁'
  rw [List.drop_zero]
  have hfl : (items.toList.take i).length = i := by rw [List.length_take, Array.length_toList]; omega
  rw [if_neg (show ¬ ((items.toList.take i).length < i) by rw [hfl]; omega)]
  refine wpAny_bind (wpAny_holding (kun_collect (s := { s with heap := h₁ }) (T := "tuple_iterator") (.inr (.inr (.inr rfl))) (Walks.tuple (A := A.in1) hh s.heap.objs.size l hlt items) (fun j u st => st.1.typeIs) (k := i) (by omega) ⟨hit₁, hl₁⟩ (Heap.lt_size hoi) (Heap.lt_size hol) (fun h₂ tk hk => ?_) hz))
  have hrl : (items.toList.drop i).length = items.size - i := by rw [List.length_drop, Array.length_toList]
  have hmid : (items.toList.drop i).length - (i + 1 - 1 - i) = (items.toList.drop i).length := by omega
  show wpAny _ _ (if (items.toList.drop i).length < i + 1 - 1 - i then _ else _) _ _ _
  rw [if_neg (by omega)]
  show wpAny _ _ (newList ((items.toList.drop i).take ((items.toList.drop i).length - (i + 1 - 1 - i))) >>= fun d => pure (items.toList.take i ++ [d] ++ (items.toList.drop i).drop ((items.toList.drop i).length - (i + 1 - 1 - i)))) _ _ _
  rw [hmid, List.take_length, List.drop_length]
  have he : ∀ b o, s.heap.get? b = some o → h₂.get? b = some o := fun b o e => by
    have nb : b ≠ s.heap.objs.size := Nat.ne_of_lt (Heap.lt_size e)
    exact hk b o nb (hs₁.extBut b o nb (Heap.get?_push_of_some _ e))
  refine wpAny_bind (wpAny_newList (s := { s with heap := h₂, toks := tk }) (wpAny_pure ?_) (by rw [hrl]; omega))
  rw [List.append_nil]
  exact h _ tk he
end
section
variable {X : Cx}
/-- (a, .., *b) = a tuple: n items, the others a new list -/
def gStar (K : PySem.W.Frag) (n : Nat) (t : TGs) : TG := fun v σ H Q => ∃ a xs, v = .ref a ∧ SqT K H a xs ∧ n ≤ xs.length ∧ ∀ l, H l = none → t (xs.take n ++ [.ref l]) σ (upd H l (.lst (xs.drop n))) Q
theorem vals_take {xs : List V} {us : List Value} (n : Nat) (h : Vals xs us) : Vals (xs.take n) (us.take n) := by
  unfold Vals at *
  induction h generalizing n with
  | nil => rw [List.take_nil, List.take_nil]; exact .nil
  | cons a b ih =>
    cases n with
    | zero => exact .nil
    | succ n => exact .cons a (ih n)
theorem vals_drop {xs : List V} {us : List Value} (n : Nat) (h : Vals xs us) : Vals (xs.drop n) (us.drop n) := by
  unfold Vals at *
  induction h generalizing n with
  | nil => rw [List.drop_nil, List.drop_nil]; exact .nil
  | cons a b ih =>
    cases n with
    | zero => exact .cons a b
    | succ n => exact ih n
theorem vals_snoc {xs : List V} {us : List Value} {v : V} {u : Value} (h : Vals xs us) (r : RelV v u) : Vals (xs ++ [v]) (us ++ [u]) := by
  unfold Vals at *
  induction h with
  | nil => exact .cons r .nil
  | cons a b ih => exact .cons a ih
theorem pg_star {K : PySem.W.Frag} {es es' : List Expr} {k : Nat} {pos : Pos} {t : TGs} {n : Nat} (hK : X.K = K) (hc : X.calm = true) (h : PGs X es' t) (hm : (assignEach es X.env).map (·.2) = (assignEach es' X.env).map (·.2) := by rfl)
    (hn : (assignEach es X.env).length = n + 1 := by rfl) (hst : (assignEach es X.env).findIdx? (·.1) = some n := by rfl) : PG X (.Tuple es k pos) (gStar K n t) := by
  subst hK
  refine ⟨fun pins s σ H v u Q I r hw => ?_⟩
  obtain ⟨a, xs, e1, hq, hl, hw⟩ := hw
  subst e1
  cases r
  obtain ⟨its, rv, ht, hz⟩ := I.tuple hq
  have ln := rv.length
  rw [assign_Tuple]
  refine wpAny_bind (wpAny_standAt ?_)
  unfold unpack
  rw [hn, hst, hm]
  refine wpAny_bind (wpAny_holding (unpack_star ht (I.ok.hd hc) (by simp only [List.size_toArray]; omega) (by simp only [List.size_toArray]; omega) fun h' tk kept => ?_))
  have I1 : Inv X pins σ H { s with heap := h', toks := tk } := I.kept kept
  have hf : H h'.objs.size = none := I1.hok.fresh (Nat.le_refl _)
  have hz2 : (xs.drop n).length ≤ sizeLine := by rw [List.length_drop]; omega
  have I2 : Inv X pins σ (upd H h'.objs.size (.lst (xs.drop n))) { s with heap := h'.push { cls := .type "list", data := .seq (its.drop n).toArray }, toks := tk } :=
    I1.laid (t' := tk) (fun b u e => Heap.get?_push_of_some _ e) (Nat.le_refl _) ⟨hz2, its.drop n, 0, vals_drop n rv, Heap.get?_push_size _ rfl⟩
  exact h.run pins _ σ _ _ _ Q I2 (vals_snoc (v := .ref h'.objs.size) (vals_take n rv) rfl) (hw _ hf)
end
section
variable {h : Hs} {Q : QD} {K : PySem.W.Frag} {x : D} {xs ds : List D} {n : Nat}
theorem g_star {gs : TGs} {W : List Nat} {ρ : Rho} {N : Rho → Hs → Prop} (hl : n ≤ xs.length) (z : dGs W gs (xs.take n ++ [.lst (xs.drop n)]) ρ h N) : dG W (gStar K n gs) (.tup xs) ρ h N := fun σ H v N' rl dx p => by
  cases dx with
  | @tup q vs _ e0 dxs =>
    have e1 := (fz_some e0).2
    refine ⟨q, vs, rfl, .of e1, by rw [dxs.len]; exact hl, fun l nl => ?_⟩
    obtain ⟨r1, s1⟩ := rl.rh.newF (o := .lst (vs.drop n)) nl
    have d1 := dxs.mono s1
    refine z σ _ _ N' (rl.step r1 s1) ((d1.take n).app (.one (.lst (by rw [fz_new rl.rh nl, upd_same]) (d1.drop n)))) fun ρ' h' σ' H' q r s l2 u => p ρ' h' σ' H' q r (s1.trans s) l2 u
end
end GX

set_option Elab.async false
set_option linter.all false
set_option maxRecDepth 100000
set_option maxHeartbeats 4000000
/-! ### isinstance, < and > of plain data -/
namespace GX
open PySem L2 PySem.Spec PyProof.Rows PySem.W
section
variable {X : Cx} {K : PySem.W.Frag}
theorem call_isiK (hK : X.K = K) : CallR X (.builtin "isinstance") (rIsi K) := hK ▸ call_isi
def rGtD (K : PySem.W.Frag) : R2 := fun x y H Q => ∃ d e, Dp K H x d ∧ Dp K H y e ∧ alike d e = true ∧ d ≠ .none ∧ d.depth ≤ 64 ∧ Q (.bl (dataLt e d)) H
def rLtD (K : PySem.W.Frag) : R2 := fun x y H Q => ∃ d e, Dp K H x d ∧ Dp K H y e ∧ alike d e = true ∧ d ≠ .none ∧ d.depth ≤ 64 ∧ Q (.bl (dataLt d e)) H
theorem op_gtDK (hK : X.K = K) (hu : X.A.units + 65 < cLine) : OpR X (compareOp .Gt) (rGtD K) := by
  subst hK
  intro pins s σ H x y v u Q I rx ry ⟨d, e, hd, he, al, nn, dp, q⟩
  obtain ⟨as, r1⟩ := Dp.reads I d x v hd rx
  obtain ⟨bs, r2⟩ := Dp.reads I e y u he ry
  refine rcGt_alike d e X.A s v u as bs r1 r2 al nn ?_ _ _ _ _ ⟨.bl _, H, I, rfl, q⟩
  have := Nat.min_le_left d.depth e.depth
  omega
theorem op_ltDK (hK : X.K = K) (hu : X.A.units + 65 < cLine) : OpR X (compareOp .Lt) (rLtD K) := by
  subst hK
  intro pins s σ H x y v u Q I rx ry ⟨d, e, hd, he, al, nn, dp, q⟩
  obtain ⟨as, r1⟩ := Dp.reads I d x v hd rx
  obtain ⟨bs, r2⟩ := Dp.reads I e y u he ry
  refine rcLt_alike d e X.A s v u as bs r1 r2 al nn ?_ _ _ _ _ ⟨.bl _, H, I, rfl, q⟩
  have := Nat.min_le_left d.depth e.depth
  omega
end
section
variable {ρ : Rho} {h : Hs} {Q : QD} {K : PySem.W.Frag} {x y : D} {ds : List D} {z : Str}
theorem d_cTy {n : String} (q : Q (.ty n) h) : dE (tC (.ty n)) ρ h Q := d_c (fun _ => .ty n) q
theorem kitOne_tuple : PySem.W.kitOne K (.type "tuple") (.type "tuple") = some true := by
  unfold PySem.W.kitOne
  rw [if_pos (by decide)]
theorem kitOne_str : PySem.W.kitOne K (.type "str") (.type "str") = some true := by
  unfold PySem.W.kitOne
  rw [if_pos (by decide)]
theorem v_isiT (q : Q (.bl true) h) : dRA (rIsi K) [.tup ds, .ty "tuple"] h Q := fun vs H Q' r dx p => by
  cases dx with
  | cons d1 d2 =>
    cases d2 with
    | cons d2 d3 =>
      cases d3
      cases d2
      cases d1 with
      | @tup a xs _ e0 dxs =>
        exact ⟨_, _, _, _, true, rfl, .ty _, .base (.tup (fz_some e0).2), kitOne_tuple, post_id p r (.bl true) q⟩
theorem v_isiS (q : Q (.bl true) h) : dRA (rIsi K) [.str z, .ty "str"] h Q := fun vs H Q' r dx p => by
  cases dx with
  | cons d1 d2 =>
    cases d2 with
    | cons d2 d3 =>
      cases d3
      cases d2
      cases d1
      exact ⟨_, _, _, _, true, rfl, .ty _, .base (.str _), kitOne_str, post_id p r (.bl true) q⟩
theorem v_gtD (o1 : okP x = true) (o2 : okP y = true) (al : alike (toP x) (toP y) = true) (nn : toP x ≠ .none) (dp : (toP x).depth ≤ 64) (q : Q (.bl (dataLt (toP y) (toP x))) h) : dR2 (rGtD K) x y h Q := fun v w H Q' r dx dy p =>
  ⟨_, _, dp_of o1 dx, dp_of o2 dy, al, nn, dp, post_id p r (.bl _) q⟩
theorem v_ltD (o1 : okP x = true) (o2 : okP y = true) (al : alike (toP x) (toP y) = true) (nn : toP x ≠ .none) (dp : (toP x).depth ≤ 64) (q : Q (.bl (dataLt (toP x) (toP y))) h) : dR2 (rLtD K) x y h Q := fun v w H Q' r dx dy p =>
  ⟨_, _, dp_of o1 dx, dp_of o2 dy, al, nn, dp, post_id p r (.bl _) q⟩
end
end GX

set_option Elab.async false
set_option linter.all false
set_option maxRecDepth 100000
set_option maxHeartbeats 4000000
/-! ### zip(a tuple, a list) -/
namespace GX
open PySem L2 PySem.Spec PyProof.Rows
abbrev mz1 (h : Heap) (t : Addr) : Heap := h.push { cls := .type "tuple_iterator", data := .fields #[.ref t, .int 0 0] }
abbrev mz2 (h : Heap) (t l : Addr) : Heap := (mz1 h t).push { cls := .type "list_iterator", data := .fields #[.ref l, .int 0 0] }
abbrev mz3 (h : Heap) (t l : Addr) : Heap := (mz2 h t l).push { cls := .type "tuple", data := .seq #[.ref h.objs.size, .ref (mz1 h t).objs.size] }
abbrev mz4 (h : Heap) (t l : Addr) : Heap := (mz3 h t l).push { cls := .type "tuple", data := .seq #[.none, .none] }
abbrev mz5 (h : Heap) (t l : Addr) : Heap := (mz4 h t l).push { cls := .type "zip", data := .fields #[.none, .bool false, .bool false, .ref (mz2 h t l).objs.size, .ref (mz3 h t l).objs.size] }
theorem meets_mzip (t l : Addr) (xs ys : Array Value) :
    Meets (Builtin.«zip.__new__» ⟨[.type "zip", .ref t, .ref l], []⟩) (fun _ R s => s.heap.IsTuple t xs ∧ s.heap.IsList l ys ∧ R (.ok (.ret (.ref (mz4 s.heap t l).objs.size))) { s with heap := mz5 s.heap t l }) :=
  .of_wp fun prog w A R s h => by
    obtain ⟨hp, g, d, tk, os⟩ := s
    obtain ⟨hl1, hl2, h⟩ := h
    have hsub := sub_zip
    have a1 : Heap.IsTuple (Shared.heap ⟨hp, g, d, tk, os⟩) t xs := hl1
    have a2 : Heap.IsList (Shared.heap ⟨hp.push { cls := .type "tuple_iterator", data := .fields #[.ref t, .int 0 0] }, g, d, tk, os⟩) l ys := Heap.IsList.push hl2 _
    wp_walk using wpAny_pyIter_tuple a1, wpAny_pyIter_list a2
    exact ⟨_, rfl, h⟩
section
variable {prog : Program} {w : World} {A : Around} {E : Value → Shared → Prop} {s : Shared}
/-- the five new objects of a zip made at n -/
structure MzNew (h h' : Heap) (t l : Addr) : Prop where
  z : IsZip h' (h.objs.size + 4) (h.objs.size + 2) (h.objs.size + 3) .none
  ti : IsPair h' (h.objs.size + 2) (.ref h.objs.size) (.ref (h.objs.size + 1))
  to : IsPair h' (h.objs.size + 3) .none .none
  i1 : h'.IsTupleIter h.objs.size t 0
  i2 : h'.IsListIter (h.objs.size + 1) l 0
  keep : ∀ c o, h.get? c = some o → h'.get? c = some o
theorem mz_new (h : Heap) (t l : Addr) : MzNew h (mz5 h t l) t l ∧ (mz4 h t l).objs.size = h.objs.size + 4 := by
  have z1 : (mz1 h t).objs.size = h.objs.size + 1 := Heap.size_push ..
  have z2 : (mz2 h t l).objs.size = h.objs.size + 2 := by rw [Heap.size_push, z1]
  have z3 : (mz3 h t l).objs.size = h.objs.size + 3 := by rw [Heap.size_push, z2]
  have z4 : (mz4 h t l).objs.size = h.objs.size + 4 := by rw [Heap.size_push, z3]
  have up4 : ∀ {c o}, (mz4 h t l).get? c = some o → (mz5 h t l).get? c = some o := fun e => Heap.get?_push_of_some _ e
  have up3 : ∀ {c o}, (mz3 h t l).get? c = some o → (mz5 h t l).get? c = some o := fun e => up4 (Heap.get?_push_of_some _ e)
  have up2 : ∀ {c o}, (mz2 h t l).get? c = some o → (mz5 h t l).get? c = some o := fun e => up3 (Heap.get?_push_of_some _ e)
  have up1 : ∀ {c o}, (mz1 h t).get? c = some o → (mz5 h t l).get? c = some o := fun e => up2 (Heap.get?_push_of_some _ e)
  have g5 : IsZip (mz5 h t l) (mz4 h t l).objs.size (mz2 h t l).objs.size (mz3 h t l).objs.size .none := Heap.get?_push_size _ rfl
  have g4 : IsPair (mz5 h t l) (mz3 h t l).objs.size .none .none := up4 (Heap.get?_push_size _ rfl)
  have g3 : IsPair (mz5 h t l) (mz2 h t l).objs.size (.ref h.objs.size) (.ref (mz1 h t).objs.size) := up3 (Heap.get?_push_size _ rfl)
  have g2 : (mz5 h t l).IsListIter (mz1 h t).objs.size l 0 := ⟨_, up2 (Heap.get?_push_size _ rfl), rfl, rfl⟩
  have g1 : (mz5 h t l).IsTupleIter h.objs.size t 0 := ⟨_, up1 (Heap.get?_push_size _ rfl), rfl, rfl⟩
  generalize mz5 h t l = h5 at g1 g2 g3 g4 g5 up1 up2 up3 up4 ⊢
  rw [z4, z2, z3] at g5
  rw [z3] at g4
  rw [z2, z1] at g3
  rw [z1] at g2
  exact ⟨⟨g5, g3, g4, g1, g2, fun c o e => up1 (Heap.get?_push_of_some _ e)⟩, z4⟩
theorem call_mzip {t l : Addr} {xs ys : Array Value} {Q : Value → Shared → Prop} (h1 : s.heap.IsTuple t xs) (h2 : s.heap.IsList l ys) (h : ∀ h', MzNew s.heap h' t l → Q (.ref (s.heap.objs.size + 4)) { s with heap := h' }) :
    wpAny (model prog w) A (call (.type "zip") [.ref t, .ref l]) Q E s := by
  refine callType_new F.called_zip (by decide) (F.typeCall_zip_2 _ _) (F.newCall_zip_2 _ _) (fun obj => F.args_object_init_3 obj _ _) F.entry_zip_new (meets_mzip t l xs ys) ⟨h1, h2, ?_⟩
  obtain ⟨nw, z4⟩ := mz_new s.heap t l
  show _ ∧ _
  rw [z4]
  exact ⟨⟨_, nw.z, rfl⟩, h _ nw⟩
end
/-- a tuple and a list as they stand at each turn, the items in new pairs -/
def Itm (K : PySem.W.Frag) (a b : Addr) : It :=
  ⟨fun i H => ∃ (xs ys : List V) (x y : V), SqT K H a xs ∧ SqL K H b ys ∧ xs[i]? = some x ∧ ys[i]? = some y,
    fun i H v H' => ∃ T x y, v = .ref T ∧ H T = none ∧ H' = upd H T (.tup [x, y]) ∧ (∀ xs, SqT K H a xs → xs[i]? = some x) ∧ ∀ ys, SqL K H b ys → ys[i]? = some y,
    fun i H => ∃ xs ys : List V, SqT K H a xs ∧ SqL K H b ys ∧ (xs.length ≤ i ∨ ys.length ≤ i) ∧ i ≤ xs.length ∧ i ≤ ys.length⟩
theorem mz_five {P : Addr → Prop} {z TI TO i1 i2 c : Addr} (h : c ∈ [z, TI, TO, i1, i2]) (a : P z) (b : P TI) (d : P TO) (e : P i1) (f : P i2) : P c := by
  have e' : c = z ∨ c = TI ∨ c = TO ∨ c = i1 ∨ c = i2 := by simpa using h
  rcases e' with q | q | q | q | q <;> (rw [q]; assumption)
theorem mz_sep {z TI TO i1 i2 l1 l2 : Addr} (D : ZipApart z TI TO i1 i2 l1 l2) (n1 : i1 ≠ l2) (n2 : i2 ≠ l1) : ZipSep2 z TI TO i1 i2 [i1, l1] [i2, l2] := by
  obtain ⟨a1, a2, a3, a4, a5, a6, a7, a8, a9, a10, b1, b2, b3, b4, c1, c2, c3, c4⟩ := D
  refine ⟨a1, a2, a5, a6, by simp, ?_, ?_, a7, by simp, ?_, ?_, ?_, ?_⟩ <;> simp only [List.mem_cons, List.mem_nil_iff, or_false, not_or]
  · exact ⟨a3.symm, b1.symm⟩
  · exact ⟨a8, b2.symm⟩
  · exact ⟨a4.symm, c1.symm⟩
  · exact ⟨a9, c2.symm⟩
  · exact ⟨a10, n1⟩
  · exact ⟨a10.symm, n2⟩
end GX

set_option Elab.async false
set_option linter.all false
set_option maxRecDepth 100000
set_option maxHeartbeats 4000000
/-! ### zip(a tuple, a list), walked -/
namespace GX
open PySem L2 PySem.Spec PyProof.Rows
theorem turn_mzip {P : Program} {w : World} {K : PySem.W.Frag} {elts : List Expr} {kk : Nat} {tpos : Pos} {a b z TI TO i1 i2 : Addr} (D : ZipApart z TI TO i1 i2 a b) :
    Turn P w K (.Tuple elts kk tpos) (Itm K a b) [z, TI, TO, i1, i2] z (fun i h => IsZip h z TI TO .none ∧ IsPair h TI (.ref i1) (.ref i2) ∧ (∃ x y, IsPair h TO x y) ∧ h.IsTupleIter i1 a i ∧ h.IsListIter i2 b i) where
  mem := List.mem_cons_self ..
  obj := fun i h ⟨hz, hTI, ⟨x, y, hTO⟩, ⟨o1, e1, _, d1⟩, ⟨o2, e2, _, d2⟩⟩ c hc =>
    mz_five (P := fun c => ∃ o, h.get? c = some o ∧ ∀ v, o.data ≠ .cell v) hc ⟨_, hz, fun v q => nomatch q⟩ ⟨_, hTI, fun v q => nomatch q⟩ ⟨_, hTO, fun v q => nomatch q⟩ ⟨o1, e1, fun v q => by rw [d1] at q; cases q⟩ ⟨o2, e2, fun v q => by rw [d2] at q; cases q⟩
  keep := fun i h h' ⟨hz, hTI, ⟨x, y, hTO⟩, h1, h2⟩ k =>
    ⟨k z (by simp) _ hz, k TI (by simp) _ hTI, ⟨x, y, k TO (by simp) _ hTO⟩, h1.at fun o q => k i1 (by simp) o q, h2.at fun o q => k i2 (by simp) o q⟩
  item := by
    intro X hP hw hK hc i pins s σ H E I hf st hg
    subst hP hw hK
    obtain ⟨hz, hTI, ⟨x0, y0, hTO⟩, h1, h2⟩ := st
    obtain ⟨xs, ys, x, y, hqx, hqy, hx, hy⟩ := hg
    obtain ⟨its, rv, p1, _⟩ := I.tuple hqx
    obtain ⟨its2, rv2, p2, _⟩ := I.list hqy
    obtain ⟨u, hu, ru⟩ := rv.get hx
    obtain ⟨u2, hu2, ru2⟩ := rv2.get hy
    have zl : z < s.heap.objs.size := Heap.lt_size hz
    have calm : X.A.in1.handled = none := I.ok.hd hc
    have lt1 := (List.getElem?_eq_some_iff.mp hu).1
    have lt2 := (List.getElem?_eq_some_iff.mp hu2).1
    refine wpAny_pyNext_zipD2_item (mz_sep D D.l2i1.symm D.l1i2.symm) (Draws.tuple calm i1 a D.l1i1 its.toArray) (Draws.list calm i2 b D.l2i2 its2.toArray) hz hTI hTO ⟨h1, p1⟩ ⟨h2, p2.isList⟩ (by simpa using lt1) (by simpa using lt2) fun v1 v2 h' tk e1 e2 z' TO' st1 st2 hT hsz hk => ?_
    have q1 : v1 = u := by
      have e1 : its[i]? = some v1 := by simpa using e1
      rw [hu] at e1
      exact (Option.some.inj e1).symm
    have q2 : v2 = u2 := by
      have e2 : its2[i]? = some v2 := by simpa using e2
      rw [hu2] at e2
      exact (Option.some.inj e2).symm
    subst q1
    subst q2
    refine ⟨_, rfl, wpAny_letOwnedTupleGo_zip (s := { s with heap := h', toks := tk }) z' fun h'' z'' sb => ?_⟩
    have T2 : h''.get? s.heap.objs.size = some { cls := .type "tuple", data := .seq #[v1, v2] } := (sb.2 _ (Nat.ne_of_gt zl)).trans hT
    have new : ObjOk X.prog X.w (upd H s.heap.objs.size (.tup [x, y])) h'' s.heap.objs.size (.tup [x, y]) := ⟨by show 2 ≤ sizeLine; decide, [v1, v2], .cons ru (.cons ru2 .nil), ⟨_, T2, rfl, _, rfl⟩⟩
    have kept : ∀ c o, c ∉ [z, TI, TO, i1, i2] → s.heap.get? c = some o → h''.get? c = some o := fun c o hb q => by
      simp only [List.mem_cons, List.mem_nil_iff, or_false, not_or] at hb
      exact (sb.2 c hb.1).trans (hk c o hb.1 hb.2.2.1 hb.2.2.2.1 hb.2.2.2.2 q)
    have I1 := I.turnedNew (t' := tk) (ch := [z, TI, TO, i1, i2]) kept hf (Nat.le_refl _) new
    refine ⟨.ref s.heap.objs.size, _, I1, rfl, ⟨_, x, y, rfl, I.hok.fresh (Nat.le_refl _), rfl, fun l hl => by rw [I.tuple_inj hl hqx]; exact hx, fun l hl => by rw [I.list_inj hl hqy]; exact hy⟩, ⟨z'', ?_, ⟨v1, v2, ?_⟩, ?_, ?_⟩, fun c hcm => ?_⟩
    · exact (sb.2 _ D.TIz).trans (hk _ _ D.TIz D.TITO D.TIi1 D.TIi2 hTI)
    · exact (sb.2 _ D.TOz).trans TO'
    · exact st1.1.at fun o q => (sb.2 _ D.i1z).trans q
    · exact st2.1.at fun o q => (sb.2 _ D.i2z).trans q
    · obtain ⟨_, e1, _⟩ := h1
      obtain ⟨_, e2, _⟩ := h2
      have hlt : c < s.heap.objs.size := mz_five (P := fun c => c < s.heap.objs.size) hcm zl (Heap.lt_size hTI) (Heap.lt_size hTO) (Heap.lt_size e1) (Heap.lt_size e2)
      rw [upd_ne (Nat.ne_of_lt hlt)]
      exact (hf c hcm).1
  done := by
    intro X hP hw hK hc i pins s σ H E I hf st hg
    subst hP hw hK
    obtain ⟨hz, hTI, ⟨x0, y0, hTO⟩, h1, h2⟩ := st
    obtain ⟨xs, ys, hqx, hqy, hend, le1, le2⟩ := hg
    obtain ⟨its, rv, p1, _⟩ := I.tuple hqx
    obtain ⟨its2, rv2, p2, _⟩ := I.list hqy
    have l1 := rv.length
    have l2 := rv2.length
    have calm : X.A.in1.handled = none := I.ok.hd hc
    refine wpAny_pyNext_zipD2_end (mz_sep D D.l2i1.symm D.l1i2.symm) (Draws.tuple calm i1 a D.l1i1 its.toArray) (Draws.list calm i2 b D.l2i2 its2.toArray) hz hTI hTO ⟨h1, p1⟩ ⟨h2, p2.isList⟩ (by simp only [List.size_toArray]; omega) (by simp only [List.size_toArray]; omega) (by simp only [List.size_toArray]; omega) fun h' tk hk => ?_
    refine ⟨rfl, I.turnedL (t' := tk) (ch := [z, TI, TO, i1, i2]) (fun c o hb q => ?_) hf⟩
    simp only [List.mem_cons, List.mem_nil_iff, or_false, not_or] at hb
    exact hk c o hb.1 hb.2.2.1 hb.2.2.2.1 hb.2.2.2.2 q
  self := fun A i s Q E st h => wpAny_pyIter_zip st.1 h
end GX

set_option Elab.async false
set_option linter.all false
set_option maxRecDepth 100000
set_option maxHeartbeats 4000000
/-! ### zip of lists and tuples -/
namespace GX
open PySem L2 PySem.Spec PyProof.Rows
def iZipG (K : PySem.W.Frag) (ta : TA) : TI := fun σ H R => ta σ H fun vs H1 => ∃ a b xs ys, vs = [.ref a, .ref b] ∧
  ((SqL K H1 a xs ∧ SqL K H1 b ys ∧ R (Itz K a b) H1) ∨ (SqT K H1 a xs ∧ SqT K H1 b ys ∧ R (RZ.ItzT K a b) H1) ∨ (SqT K H1 a xs ∧ SqL K H1 b ys ∧ R (Itm K a b) H1))
theorem pi_zipG {X : Cx} {K : PySem.W.Frag} {e e2 : Expr} {ta : TA} {p pos tpos : Pos} {elts : List Expr} {kk : Nat} (hK : X.K = K) (hg : Gl X "zip") (hm : X.mg "zip" = none) (ha : PA X [e, e2] ta)
    (hs : starEach [e, e2] X.env = (false, eval e X.env) :: starEach [e2] X.env := by rfl) (hpl : (backTo pos (starEach [e2] X.env)).any (·.1) = false := by rfl) :
    PI X (.Tuple elts kk tpos) (.Call (.Name "zip" p) [e, e2] [] pos) (iZipG K ta) := by
  subst hK
  refine ⟨fun pins s σ H R I h => ?_⟩
  refine Call_ (ld_blt I hg hm PyProof.Rows.boot_zip (PyProof.Rows.callWith_type1 (thn (ha.run pos pins s σ H _ I h) fun us s1 ⟨vs, H1, I1, r1, a, b, xs, ys, ex, q1⟩ => ?_) hs hpl))
  subst ex
  cases r1 with
  | cons r rr =>
    cases rr with
    | cons r' rr =>
      cases rr
      cases r
      cases r'
      generalize hn : s1.heap.objs.size = n at *
      have fresh : ∀ c, c ∈ [n + 4, n + 2, n + 3, n, n + 1] → FpOk X pins H1 c := fun c hcm => by
        have hle : s1.heap.objs.size ≤ c := by
          rw [hn]
          exact mz_five (P := fun c => n ≤ c) hcm (Nat.le_add_right ..) (Nat.le_add_right ..) (Nat.le_add_right ..) (Nat.le_refl _) (Nat.le_add_right ..)
        exact I1.fpOk hle (I1.hok.fresh hle)
      rcases q1 with ⟨hqx, hqy, q⟩ | ⟨hqx, hqy, q⟩ | ⟨hqx, hqy, q⟩
      · obtain ⟨its, rv, p1, _⟩ := I1.list hqx
        obtain ⟨its2, rv2, p2, _⟩ := I1.list hqy
        refine call_zip_2 p1.isList p2.isList fun h' hz hTI hTO h1 h2 hsz hk => ?_
        rw [hn] at hz hTI hTO h1 h2 ⊢
        refine wpAny_pyIter_zip hz ⟨n + 4, [n + 4, n + 2, n + 3, n, n + 1], _, _, H1, rfl, I1.kept (t' := s1.toks) hk, turn_zip (PySem.W.ktu_apart n a b (hn ▸ p1.lt) (hn ▸ p2.lt)), ⟨hz, hTI, ⟨_, _, hTO⟩, h1, h2⟩, fresh, q⟩
      · obtain ⟨its, rv, p1, _⟩ := I1.tuple hqx
        obtain ⟨its2, rv2, p2, _⟩ := I1.tuple hqy
        obtain ⟨o1, ho1, _⟩ := id p1
        obtain ⟨o2, ho2, _⟩ := id p2
        refine RZ.call_zipT (show s1.heap.IsTuple a its.toArray from p1) (show s1.heap.IsTuple b its2.toArray from p2) fun h' hz hTI hTO h1 h2 hsz hk => ?_
        rw [hn] at hz hTI hTO h1 h2 ⊢
        refine wpAny_pyIter_zip hz ⟨n + 4, [n + 4, n + 2, n + 3, n, n + 1], _, _, H1, rfl, I1.kept (t' := s1.toks) hk, RZ.turn_zipT (PySem.W.ktu_apart n a b (hn ▸ Heap.lt_size ho1) (hn ▸ Heap.lt_size ho2)), ⟨hz, hTI, ⟨_, _, hTO⟩, h1, h2⟩, fresh, q⟩
      · obtain ⟨its, rv, p1, _⟩ := I1.tuple hqx
        obtain ⟨its2, rv2, p2, _⟩ := I1.list hqy
        obtain ⟨o1, ho1, _⟩ := id p1
        refine call_mzip (show s1.heap.IsTuple a its.toArray from p1) p2.isList fun h' nw => ?_
        obtain ⟨hz, hTI, hTO, h1, h2, hk⟩ := nw
        rw [hn] at hz hTI hTO h1 h2 ⊢
        refine wpAny_pyIter_zip hz ⟨n + 4, [n + 4, n + 2, n + 3, n, n + 1], _, _, H1, rfl, I1.kept (t' := s1.toks) hk, turn_mzip (PySem.W.ktu_apart n a b (hn ▸ Heap.lt_size ho1) (hn ▸ p2.lt)), ⟨hz, hTI, ⟨_, _, hTO⟩, h1, h2⟩, fresh, q⟩
section
variable {ρ : Rho} {h : Hs} {K : PySem.W.Frag} {R : List D → (Hs → Prop) → Hs → Prop} {Sd : Hs → Prop}
theorem it_mzip {H : Hp} {p q : Addr} {xs ys : List D} (w1 : ∀ h' H', RelH h' H' → StI Sd h H h' H' → ∃ vs, H' p = some (.tup vs) ∧ DxA (Fz h' H') vs xs)
    (w2 : ∀ h' H', RelH h' H' → StI Sd h H h' H' → ∃ vs, H' q = some (.lst vs) ∧ DxA (Fz h' H') vs ys) : ItOk (Itm K p q) (prsD xs ys) (StI Sd h H) := by
  refine ⟨fun H' => ∃ vs us, H' p = some (.tup vs) ∧ H' q = some (.lst us) ∧ vs.length = xs.length ∧ us.length = ys.length, fun i H1 x H2 => ∃ T v u vs us, x = .ref T ∧ H1 T = none ∧ H2 = upd H1 T (.tup [v, u]) ∧ H1 p = some (.tup vs) ∧ H1 q = some (.lst us) ∧ vs[i]? = some v ∧ us[i]? = some u, ⟨?_, ?_, ?_⟩, ?_, ?_⟩
  · rintro i H1 hi ⟨vs, us, e1, e2, l1, l2⟩
    rw [prsD_len] at hi
    exact ⟨vs, us, vs[i]'(by omega), us[i]'(by omega), .of e1, .of e2, List.getElem?_eq_getElem _, List.getElem?_eq_getElem _⟩
  · rintro H1 ⟨vs, us, e1, e2, l1, l2⟩
    refine ⟨vs, us, .of e1, .of e2, ?_⟩
    rw [prsD_len]
    omega
  · rintro i H1 x H2 hi ⟨vs, us, e1, e2, l1, l2⟩ y
    obtain ⟨T, v, u, h1, h2, h3, h4, h5⟩ := y
    exact ⟨T, v, u, vs, us, h1, h2, h3, e1, e2, h4 vs (.of e1), h5 us (.of e2)⟩
  · intro h' H' r s
    obtain ⟨vs, e, a⟩ := w1 h' H' r s
    obtain ⟨us, e2, a2⟩ := w2 h' H' r s
    exact ⟨vs, us, e, e2, a.len, a2.len⟩
  · rintro i h' H1 x H2 r s ⟨T, v, u, vs, us, rfl, nT, rfl, e1, e2, hv, hu⟩
    obtain ⟨vs', e1', a1⟩ := w1 h' _ r s
    obtain ⟨us', e2', a2⟩ := w2 h' _ r s
    rw [e1] at e1'
    rw [e2] at e2'
    cases e1'
    cases e2'
    obtain ⟨d1, ed1, dx1⟩ := a1.getV hv
    obtain ⟨d2, ed2, dx2⟩ := a2.getV hu
    obtain ⟨dp, rp, sp⟩ := pair_new r nT dx1 dx2
    exact ⟨_, prsD_get ed1 ed2, dp, rp, sp⟩
/-- zip of data: lists, or a tuple and a list -/
theorem i_zipLL {a : TA} (z : dA a ρ h fun xs h1 => ∃ ds es, xs = [.lst ds, .lst es] ∧ R (prsD ds es) (fun _ => True) h1) : dI (iZipG K a) ρ h R := fun σ H R' rl p =>
  z σ H _ rl fun xs h1 vs H1 ⟨ds, es, ex, q⟩ dx rh s => by
    subst ex
    cases dx with
    | cons d1 d2 =>
      cases d2 with
      | cons d2 d3 =>
        cases d3
        cases d1 with
        | @lst b vs1 _ e1 a1 =>
          cases d2 with
          | @lst c vs2 _ e2 a2 =>
            exact ⟨b, c, vs1, vs2, rfl, .inl ⟨.of (fz_some e1).2, .of (fz_some e2).2, p _ (fun _ => True) _ h1 H1 q rh s (it_zip (fun h' H' r' k => ⟨vs1, (fz_some (k.2 _ _ e1)).2, a1.mono k.2⟩) (fun h' H' r' k => ⟨vs2, (fz_some (k.2 _ _ e2)).2, a2.mono k.2⟩))⟩⟩
theorem i_zipTL {a : TA} (z : dA a ρ h fun xs h1 => ∃ ds es, xs = [.tup ds, .lst es] ∧ R (prsD ds es) (fun _ => True) h1) : dI (iZipG K a) ρ h R := fun σ H R' rl p =>
  z σ H _ rl fun xs h1 vs H1 ⟨ds, es, ex, q⟩ dx rh s => by
    subst ex
    cases dx with
    | cons d1 d2 =>
      cases d2 with
      | cons d2 d3 =>
        cases d3
        cases d1 with
        | @tup b vs1 _ e1 a1 =>
          cases d2 with
          | @lst c vs2 _ e2 a2 =>
            exact ⟨b, c, vs1, vs2, rfl, .inr (.inr ⟨.of (fz_some e1).2, .of (fz_some e2).2, p _ (fun _ => True) _ h1 H1 q rh s (it_mzip (fun h' H' r' k => ⟨vs1, (fz_some (k.2 _ _ e1)).2, a1.mono k.2⟩) (fun h' H' r' k => ⟨vs2, (fz_some (k.2 _ _ e2)).2, a2.mono k.2⟩))⟩)⟩
end
end GX

set_option Elab.async false
set_option linter.all false
set_option maxRecDepth 100000
set_option maxHeartbeats 4000000
/-! ### one kind with a leaf, a pair and a wrap: steps built by hand, chains -/
namespace GX
open PySem L2 PySem.Spec TL
section
variable {ts : List Trip} {ss : List GStep} {k a b c : Str} {n : Nat}
theorem StepsOk.one (h : (c, k, [k]) ∈ ts) (ok : StepsOk ts ss (List.replicate n k)) {x : Nat} (hx : x < n) : StepsOk ts (ss ++ [(c, [x])]) (List.replicate (n + 1) k) := by
  rw [List.replicate_succ']
  refine StepsOk.snoc (t := (c, k, [k])) ok h rfl fun j p e => ?_
  cases j with
  | zero => cases e; exact ⟨x, rfl, List.getElem?_replicate_of_lt hx⟩
  | succ j => cases e
theorem StepsOk.two (h : (b, k, [k, k]) ∈ ts) (ok : StepsOk ts ss (List.replicate n k)) {x y : Nat} (hx : x < n) (hy : y < n) : StepsOk ts (ss ++ [(b, [x, y])]) (List.replicate (n + 1) k) := by
  rw [List.replicate_succ']
  refine StepsOk.snoc (t := (b, k, [k, k])) ok h rfl fun j p e => ?_
  match j, e with
  | 0, e => cases e; exact ⟨x, rfl, List.getElem?_replicate_of_lt hx⟩
  | 1, e => cases e; exact ⟨y, rfl, List.getElem?_replicate_of_lt hy⟩
theorem StepsOk.leaf0 (h : (a, k, []) ∈ ts) (ok : StepsOk ts ss (List.replicate n k)) : StepsOk ts (ss ++ [(a, [])]) (List.replicate (n + 1) k) := by
  rw [List.replicate_succ']
  exact StepsOk.snoc (t := (a, k, [])) ok h rfl fun j p e => by cases e
theorem StepsOk.start (h : (a, k, []) ∈ ts) : StepsOk ts [(a, [])] (List.replicate 1 k) := StepsOk.leaf0 (ss := []) (n := 0) h .nil
/-- a chain -/
def chainOf (a c : Str) (n : Nat) : List GStep := (a, []) :: (List.range n).map fun i => (c, [i])
theorem chainOf_succ : chainOf a c (n + 1) = chainOf a c n ++ [(c, [n])] := by
  unfold chainOf
  rw [List.range_succ, List.map_append]
  rfl
theorem chain_len : (chainOf a c n).length = n + 1 := by
  unfold chainOf
  rw [List.length_cons, List.length_map, List.length_range]
theorem chain_ok (h0 : (a, k, []) ∈ ts) (h1 : (c, k, [k]) ∈ ts) : ∀ n : Nat, StepsOk ts (chainOf a c n) (List.replicate (n + 1) k)
  | 0 => .start h0
  | n + 1 => by
    rw [chainOf_succ]
    exact (chain_ok h0 h1 n).one h1 (Nat.lt_succ_self n)
theorem chain_sizes : ∀ n : Nat, sizesOf (chainOf a c n) = (List.range (n + 1)).map fun i => i + 1
  | 0 => rfl
  | n + 1 => by
    rw [chainOf_succ, sizesOf_app, chain_sizes n]
    unfold addSize
    rw [List.range_succ (n := n + 1), List.map_append]
    congr 1
    show [1 + (List.map _ [n]).sum] = _
    simp [List.getD_eq_getElem?_getD, List.getElem?_range]
    omega
theorem chain_depths : ∀ n : Nat, depthsOf (chainOf a c n) = (List.range (n + 1)).map fun i => i + 1
  | 0 => rfl
  | n + 1 => by
    rw [chainOf_succ, depthsOf_app, chain_depths n]
    unfold addDep
    rw [List.range_succ (n := n + 1), List.map_append]
    congr 1
    unfold mx0
    simp [List.getD_eq_getElem?_getD, List.getElem?_range]
    omega
/-- the signature of one kind -/
def trio (a b c k : Str) : List Trip := [(a, k, []), (b, k, [k, k]), (c, k, [k])]
theorem trio_good {zs : List Str} (h : Names zs) (ea : zs[0]? = some a) (ek : zs[1]? = some k) (eb : zs[2]? = some b) (ec : zs[3]? = some c) : Good isNm (trio a b c k) := by
  have ma := List.mem_of_getElem? ea
  have mb := List.mem_of_getElem? eb
  have mc := List.mem_of_getElem? ec
  have mk := List.mem_of_getElem? ek
  have ne : ∀ {i j : Nat} {x y : Str}, zs[i]? = some x → zs[j]? = some y → i ≠ j → x ≠ y := by
    rintro i j x y e1 e2 n rfl
    exact n ((List.getElem?_inj (List.getElem?_eq_some_iff.mp e1).1 h.nd).mp (e1.trans e2.symm))
  have ek1 : kindsOf (trio a b c k) = [k] := by
    unfold trio kindsOf
    simp [addKind]
  have nms : ∀ t ∈ trio a b c k, t.1 ∈ zs ∧ t.2.1 = k ∧ t.2.2.length ≤ 2 ∧ ∀ p ∈ t.2.2, p = k := by
    intro t ht
    unfold trio at ht
    simp only [List.mem_cons, List.not_mem_nil, or_false] at ht
    rcases ht with rfl | rfl | rfl
    · exact ⟨ma, rfl, by simp, fun p hp => (nomatch hp)⟩
    · exact ⟨mb, rfl, by simp, fun p hp => by simpa using hp⟩
    · exact ⟨mc, rfl, by simp, fun p hp => by simpa using hp⟩
  refine ⟨fun t ht => ?_, ?_, by rw [ek1]; exact Nat.le_of_ble_eq_true rfl, fun k2 hk => ?_, fun t ht => Nat.le_trans (nms t ht).2.2.1 (by decide), fun t ht p hp => by rw [ek1, (nms t ht).2.2.2 p hp]; exact List.mem_cons_self .., fun k2 hk => ?_, Nat.le_of_ble_eq_true rfl, fun t ht => ?_⟩
  · rw [(nms t ht).2.1]
    exact ⟨(h.nm _ (nms t ht).1).1, (h.nm _ mk).1⟩
  · have n1 := ne ea eb (by decide)
    have n2 := ne ea ec (by decide)
    have n3 := ne eb ec (by decide)
    show [a, b, c].Nodup
    simp [n1, n2, n3]
  · unfold consOf
    rw [List.length_map]
    exact Nat.le_trans (List.length_filter_le _ _) (show 3 ≤ 6 by decide)
  · rw [ek1, List.mem_singleton] at hk
    subst hk
    exact Fint.mk (t := (a, k2, [])) (by unfold trio; exact List.mem_cons_self ..) fun p hp => (nomatch hp)
  · rw [(nms t ht).2.1]
    have l1 := (h.nm _ (nms t ht).1).2
    have l2 := (h.nm _ mk).2
    omega
theorem sizes_fine (ok : StepsOk ts ss (List.replicate n k)) (h2 : ∀ t ∈ ts, t.2.2.length ≤ 2) (few : ss.length ≤ 71) : Fine 1 10000 (.lst ((sizesOf ss).map natD)) := by
  refine (FineA.lst ((FineA.all (d := 0) (w := 76) fun x hx => ?_).mono (Nat.le_refl _) ?_)).mono (Nat.le_refl _) (Nat.le_refl _)
  · obtain ⟨m, hm, rfl⟩ := List.mem_map.mp hx
    obtain ⟨i, hi⟩ := List.getElem?_of_mem hm
    have hl := (List.getElem?_eq_some_iff.mp hi).1
    rw [sizesOf_len] at hl
    have := sizes_two ok h2 i hl
    rw [List.getD_eq_getElem?_getD, hi] at this
    have : m + 1 ≤ 2 ^ (i + 1) := this
    have : 2 ^ (i + 1) ≤ 2 ^ 71 := Nat.pow_le_pow_right (by decide) (by omega)
    have e : 2 ^ 71 = 2361183241434822606848 := by decide
    refine Fine.big ⟨by omega, ?_⟩
    show ((m : Nat) : Int) < _
    omega
  · rw [List.length_map, sizesOf_len]
    omega
end
end GX

set_option Elab.async false
set_option linter.all false
set_option maxRecDepth 100000
set_option maxHeartbeats 4000000
/-! ### lambdas over data: made, handed on, run -/
namespace GX
open PySem L2 PySem.Spec PyProof.Rows

theorem pin_ne_code {o : Obj} {a c : Addr} {q : Str} : pinO o a ≠ LamX.CodeO c q := fun z => by
  unfold LamX.CodeO pinO at z
  cases z
section
variable {ρ : Rho} {h h' : Hs} {H H' : Hp} {σ : L2.St} {Q : QD} {te : TE} {f L : Addr} {F : CloF}
theorem d_lam (hP : h L = some (.tab F.q)) (z : ∀ f, h f = none → Q (.ref f) (seth h f (.clo F))) : dE (tLam L F) ρ h Q := fun σ H Q' rl p => by
  obtain ⟨ps0, c1, c2, c3⟩ := rl.rh.cell L _ hP
  refine ⟨⟨ps0, c1, c2, fun pos cv y => ?_⟩, fun f H1 st => ?_⟩
  · obtain ⟨c, e1, e2⟩ := c3 pos cv y
    exact ⟨c, e1, (fz_some e2).2⟩
  obtain ⟨dV, doc, pm, c', ctv, ps, ps', e1, e2, e3, e4, e5, e6, e7⟩ := st.ex
  rw [c1] at e2
  cases e2
  have nf := rl.rh.no st.no
  have nPf : L ≠ f := h_ne hP nf
  have sm : Same (Fz h H) (Fz (seth h f (.clo F)) H1) := by
    intro b o e
    obtain ⟨n, e⟩ := fz_some e
    have b1 : b ≠ L := by
      rintro rfl
      rw [hP] at n
      cases n
    have b2 : b ≠ f := ne_of_none e st.no
    rw [fz_out (by rw [seth_ne b2]; exact n)]
    exact st.keep b o e b1
  have code : Fz (seth h f (.clo F)) H1 c' = some (LamX.CodeO c' F.q) := by
    rcases e6 with ⟨pos, y, _⟩ | ⟨y1, y2⟩
    · obtain ⟨c, q1, q2⟩ := c3 pos _ y
      cases q1
      exact sm _ _ q2
    · have : c' ≠ f := by
        rintro rfl
        rw [e1] at y2
        exact pin_ne_code (Option.some.inj y2)
      rw [fz_out (by rw [seth_ne this]; exact rl.rh.no y1)]
      exact y2
  have df : DfOk (Fz (seth h f (.clo F)) H1) F.dn dV := by
    unfold DfOk
    cases ed : F.dn with
    | none => rw [ed] at e7; exact e7
    | some n =>
      rw [ed] at e7
      obtain ⟨t, q1, q2, q3⟩ := e7
      refine ⟨t, q1, ?_⟩
      have : t ≠ f := by
        rintro rfl
        rw [e1] at q3
        exact pinO_tup (Option.some.inj q3)
      rw [fz_out (by rw [seth_ne this]; exact rl.rh.no q2)]
      exact q3
  have rh : RelH (seth h f (.clo F)) H1 := by
    refine ⟨fun b o e => ?_, fun b la e => ?_⟩
    · by_cases b2 : b = f
      · subst b2
        rw [seth_same] at e
        cases e
        exact ⟨dV, doc, pm, c', ctv, e1, code, df⟩
      · rw [seth_ne b2] at e
        by_cases b1 : b = L
        · subst b1
          rw [hP] at e
          cases e
          refine ⟨ps', e3, e4, fun pos cv y => ?_⟩
          rcases e5 pos cv y with y | rfl
          · obtain ⟨c, q1, q2⟩ := c3 pos cv y
            exact ⟨c, q1, sm _ _ q2⟩
          · exact ⟨c', rfl, code⟩
        · obtain ⟨v, ev⟩ := (rl.rh.cell b o e).at
          refine (rl.rh.cell b o e).mono (sameU sm) ((st.keep b v ev b1).trans ev.symm) fun la q => ?_
          have y := rl.rh.src b la (q ▸ e)
          obtain ⟨u, eu⟩ := (rl.rh.cell la _ y).at
          refine (st.keep la u eu ?_).trans eu.symm
          rintro rfl
          rw [hP] at y
          cases y
    · have b2 : b ≠ f := by
        rintro rfl
        rw [seth_same] at e
        cases e
      rw [seth_ne b2] at e
      have y := rl.rh.src b la e
      rw [seth_ne (h_ne y nf)]
      exact y
  exact p _ _ _ _ (z f nf) (.ref f) rh sm
/-- what is known no more: a closure -/
theorem d_drop1 {c : DO} (z : dE te ρ h fun x h1 => ∃ f c, h1 f = some c ∧ (∀ la, c ≠ .src la) ∧ c ≠ .held ∧ Q x (delh h1 f)) : dE te ρ h Q := fun σ H Q' rl p =>
  z σ H _ rl fun x h1 v H1 ⟨f, c, e, n1, n2, q⟩ dx rh s => p x _ v H1 q (dx.mono fz_del) (rh.del e n1 n2) (s.trans fz_del)
end
/-! ### the captured names' cells, known for a call -/
def ov (Pn h : Hs) : Hs := fun b => match Pn b with
  | some o => some o
  | none => h b
theorem ov_in {Pn h : Hs} {b : Addr} {o : DO} (e : Pn b = some o) : ov Pn h b = some o := by unfold ov; rw [e]
theorem ov_out {Pn h : Hs} {b : Addr} (e : Pn b = none) : ov Pn h b = h b := by unfold ov; rw [e]
structure PnS (S : List (Addr × Obj)) (Pn : Hs) : Prop where
  all : ∀ b, (S.lookup b = none ∧ Pn b = none) ∨ ∃ o, S.lookup b = some o ∧ (Pn b = some (.pin o) ∨ ∃ d, Pn b = some (.cellv o d))
section
variable {S : List (Addr × Obj)} {Pn h h' : Hs} {H H' : Hp} {b : Addr} {o : Obj}
theorem PnS.no (p : PnS S Pn) (e : Pn b = none) : S.lookup b = none := by
  rcases p.all b with ⟨z, _⟩ | ⟨o, _, z | ⟨d, z⟩⟩
  · exact z
  · rw [e] at z; cases z
  · rw [e] at z; cases z
theorem PnS.yes (p : PnS S Pn) (e : S.lookup b = some o) : Pn b = some (.pin o) ∨ ∃ d, Pn b = some (.cellv o d) := by
  rcases p.all b with ⟨z, _⟩ | ⟨o', z, k⟩
  · rw [e] at z; cases z
  · rw [e] at z; cases z; exact k
theorem PnS.some (p : PnS S Pn) (e : S.lookup b = some o) : ∃ c, Pn b = some c := by
  rcases p.yes e with z | ⟨d, z⟩
  · exact ⟨_, z⟩
  · exact ⟨_, z⟩
theorem fz_ov (p : PnS S Pn) (n1 : ∀ b o, S.lookup b = some o → h b = none) (n2 : ∀ b o, S.lookup b = some o → H b = none) : Fz (ov Pn h) (pinA S H) = Fz h H := by
  funext b
  cases q : S.lookup b with
  | some o =>
    obtain ⟨c, z⟩ := p.some q
    rw [fz_in (ov_in z)]
    unfold Fz
    rw [n1 b o q, n2 b o q]
    rfl
  | none =>
    have z : Pn b = none := by
      rcases p.all b with ⟨_, z⟩ | ⟨o, z, _⟩
      · exact z
      · rw [q] at z; cases z
    unfold Fz
    rw [ov_out z, pinA_out q]
theorem relH_ov (p : PnS S Pn) (r : RelH h H) (n2 : ∀ b o, S.lookup b = some o → H b = none)
    (cv : ∀ b o d, Pn b = some (.cellv o d) → ∃ u v, o.data = .cell (some u) ∧ RelV v u ∧ Dx (Fz h H) v d) : RelH (ov Pn h) (pinA S H) := by
  have n1 : ∀ b o, S.lookup b = some o → h b = none := fun b o e => r.no (n2 b o e)
  have off : ∀ c v, H c = some v → S.lookup c = none := by
    intro c v z
    cases q2 : S.lookup c with
    | none => rfl
    | some o2 => rw [n2 c o2 q2] at z; cases z
  refine ⟨fun b u e => ?_, fun b la e => ?_⟩
  · rw [fz_ov p n1 n2]
    rcases p.all b with ⟨z1, z2⟩ | ⟨o, z1, k⟩
    · rw [ov_out z2] at e
      refine (r.cell b u e).mono (sameU (Same.refl _)) (pinA_out z1) fun la q => ?_
      obtain ⟨v, ev⟩ := (r.cell la _ (r.src b la (q ▸ e))).at
      exact pinA_out (off la v ev)
    · rcases k with k | ⟨d, k⟩
      · rw [ov_in k] at e
        cases e
        exact pinA_in z1
      · rw [ov_in k] at e
        cases e
        obtain ⟨u, v, q1, q2, q3⟩ := cv b o d k
        exact ⟨u, v, pinA_in z1, q1, q2, q3⟩
  · rcases p.all b with ⟨z1, z2⟩ | ⟨o, z1, k⟩
    · rw [ov_out z2] at e
      have y := r.src b la e
      obtain ⟨v, ev⟩ := (r.cell la _ y).at
      have : Pn la = none := by
        rcases p.all la with ⟨_, z⟩ | ⟨o, z, _⟩
        · exact z
        · rw [off la v ev] at z; cases z
      rw [ov_out this]
      exact y
    · rcases k with k | ⟨d, k⟩ <;> rw [ov_in k] at e <;> cases e
theorem ov_pins (p : PnS S Pn) (r : RelH (ov Pn h) H) : ∀ b o, S.lookup b = some o → H b = some (pinO o b) := by
  intro b o e
  rcases p.yes e with z | ⟨d, z⟩
  · exact r.cell b _ (ov_in z)
  · exact (r.cell b _ (ov_in z)).choose_spec.choose_spec.1
theorem relH_unov (p : PnS S Pn) (r : RelH (ov Pn h) H) (n1 : ∀ b o, S.lookup b = some o → h b = none) : RelH h (unpinA S H) ∧ Fz (ov Pn h) H = Fz h (unpinA S H) := by
  have at_ := ov_pins p r
  have n2 : ∀ b o, S.lookup b = some o → unpinA S H b = none := fun b o e => unpinA_in e
  have eF : Fz (ov Pn h) H = Fz h (unpinA S H) := by
    have := fz_ov p n1 n2
    rw [pin_unpin at_] at this
    exact this
  have out : ∀ c u, h c = some u → Pn c = none ∧ S.lookup c = none := by
    intro c u e
    rcases p.all c with ⟨z1, z2⟩ | ⟨o, z1, _⟩
    · exact ⟨z2, z1⟩
    · rw [n1 c o z1] at e; cases e
  refine ⟨⟨fun c u e => ?_, fun c la e => ?_⟩, eF⟩
  · obtain ⟨z1, z2⟩ := out c u e
    have z := r.cell c u (by rw [ov_out z1]; exact e)
    rw [eF] at z
    refine z.mono (sameU (Same.refl _)) (unpinA_out z2) fun la q => ?_
    have y := r.src c la (by rw [ov_out z1, e, q])
    cases w : S.lookup la with
    | none => exact unpinA_out w
    | some o =>
      rcases p.yes w with k | ⟨d, k⟩ <;> rw [ov_in k] at y <;> cases y
  · obtain ⟨z1, z2⟩ := out c _ e
    have y := r.src c la (by rw [ov_out z1]; exact e)
    rcases p.all la with ⟨_, z⟩ | ⟨o, _, k⟩
    · rw [ov_out z] at y; exact y
    · rcases k with k | ⟨d, k⟩ <;> rw [ov_in k] at y <;> cases y
end
/-- what a maker knows of its cells for a call -/
structure PnOk (cells : List (Str × Addr)) (N : List Str) (sc : Scope) (ρ : Rho) (h Pn : Hs) : Prop where
  ex : ∃ S, PnS S Pn ∧ ∀ x c, cells.lookup x = some c → ∃ o v, S.lookup c = some o ∧ o.data = .cell v
  no : ∀ b o, Pn b = some o → h b = none
  inj : ∀ x y c, cells.lookup x = some c → cells.lookup y = some c → x = y
  val : ∀ (i : Nat) x d, N[i]? = some x → ρ[i]? = some (some d) → sc.names.lookup x = some .cell ∨ sc.names.lookup x = some .free → ∃ c o, cells.lookup x = some c ∧ Pn c = some (.cellv o d)
/-- an end behind the call: the cells known no more -/
def liftQ (Pn : Hs) (Q : QD) : QD := fun x h' => ∃ h1, h' = ov Pn h1 ∧ (∀ b o, Pn b = some o → h1 b = none) ∧ Q x h1
def liftX (Pn : Hs) (X : XD) : XD := fun C fs h' => ∃ h1, h' = ov Pn h1 ∧ (∀ b o, Pn b = some o → h1 b = none) ∧ X C fs h1
section
open Classical
variable {P : Program} {w : World} {K : PySem.W.Frag} {mg : Str → Option Value} {base : Heap}
  {ρ : Rho} {h : Hs} {H : Hp} {σ : L2.St} {Q : QD} {X : XD} {W : WX} {E : DEnds} {g k : Nat} {t : TDX} {a : TA} {cells : List (Str × Addr)} {N : List Str} {sc : Scope} {S : List (Addr × Obj)}
/-- the pins of data -/
noncomputable def pnOf (cells : List (Str × Addr)) (N : List Str) (sc : Scope) (ρ : Rho) (S : List (Addr × Obj)) : Hs := fun b => match S.lookup b with
  | none => none
  | some o => if z : ∃ d, ∃ (i : Nat) (x : Str), N[i]? = some x ∧ ρ[i]? = some (some d) ∧ (sc.names.lookup x = some .cell ∨ sc.names.lookup x = some .free) ∧ cells.lookup x = some b then some (.cellv o z.choose) else some (.pin o)
theorem pnOf_s : PnS S (pnOf cells N sc ρ S) := by
  refine ⟨fun b => ?_⟩
  unfold pnOf
  cases q : S.lookup b with
  | none => exact .inl ⟨rfl, rfl⟩
  | some o =>
    refine .inr ⟨o, rfl, ?_⟩
    dsimp only
    split
    · exact .inr ⟨_, rfl⟩
    · exact .inl rfl
theorem d_callC (hN : N.Nodup) (e : ρ[g]? = some (some (.fact (Thr X W))) ∨ ∀ C fs h, ¬ X C fs h)
    (z : dA a ρ h fun xs h1 => ∀ Pn, PnOk cells N sc ρ h1 Pn → t xs (ov Pn h1) (liftQ Pn Q) (liftX Pn X)) : dE (tCallC cells N sc (spDX t) (WE W) a) ρ h Q := fun σ H Q' rl p =>
  z σ H _ rl fun xs h1 vs H1 q dx rh s S so => by
    have r1 := rl.step rh s
    have pn : PnS S (pnOf cells N sc ρ S) := pnOf_s
    have n1 : ∀ b o, S.lookup b = some o → h1 b = none := fun b o e => rh.no (so.none b o e)
    have val : ∀ (i : Nat) x d, N[i]? = some x → ρ[i]? = some (some d) → sc.names.lookup x = some .cell ∨ sc.names.lookup x = some .free →
        ∃ c o u v, cells.lookup x = some c ∧ S.lookup c = some o ∧ o.data = .cell (some u) ∧ RelV v u ∧ Dx (Fz h1 H1) v d := by
      intro i x d e1 e2 e3
      obtain ⟨v, ev, dv⟩ := r1.sl i d e2
      obtain ⟨c, o, u, k1, k2, k3, k4⟩ := so.val i x v e1 ev e3
      exact ⟨c, o, u, v, k1, k2, k3, k4, dv⟩
    have uniq : ∀ {b : Addr} {i j : Nat} {x y : Str} {d d' : D}, N[i]? = some x → ρ[i]? = some (some d) → cells.lookup x = some b → N[j]? = some y → ρ[j]? = some (some d') → cells.lookup y = some b → d = d' := by
      intro b i j x y d d' a1 a2 a3 b1 b2 b3
      have := so.inj x y b a3 b3
      subst this
      have := nodup_ix hN a1 b1
      subst this
      rw [a2] at b2
      cases b2
      rfl
    have cv : ∀ b o d, pnOf cells N sc ρ S b = some (.cellv o d) → ∃ u v, o.data = .cell (some u) ∧ RelV v u ∧ Dx (Fz h1 H1) v d := by
      intro b o d e
      unfold pnOf at e
      split at e
      · cases e
      · rename_i o2 eo
        split at e
        · rename_i zz
          have e0 := Option.some.inj e
          injection e0 with e1 e2
          subst e1
          obtain ⟨i, x, y1, y2, y3, y4⟩ := zz.choose_spec
          rw [e2] at y2
          obtain ⟨c, o3, u, v, k1, k2, k3, k4, k5⟩ := val i x d y1 y2 y3
          rw [y4] at k1
          cases k1
          rw [eo] at k2
          cases k2
          exact ⟨u, v, k3, k4, k5⟩
        · cases e
    have ok : PnOk cells N sc ρ h1 (pnOf cells N sc ρ S) := by
      refine ⟨⟨S, pn, so.all⟩, fun b o e => ?_, so.inj, fun i x d e1 e2 e3 => ?_⟩
      · cases q2 : S.lookup b with
        | some o2 => exact n1 b o2 q2
        | none => unfold pnOf at e; rw [q2] at e; cases e
      · obtain ⟨c, o, u, v, k1, k2, _⟩ := val i x d e1 e2 e3
        refine ⟨c, o, k1, ?_⟩
        unfold pnOf
        rw [k2]
        dsimp only
        have zz : ∃ d, ∃ (i : Nat) (x : Str), N[i]? = some x ∧ ρ[i]? = some (some d) ∧ (sc.names.lookup x = some .cell ∨ sc.names.lookup x = some .free) ∧ cells.lookup x = some c := ⟨d, i, x, e1, e2, e3, k1⟩
        rw [dif_pos zz]
        obtain ⟨i2, x2, y1, y2, _, y4⟩ := zz.choose_spec
        rw [uniq y1 y2 y4 e1 e2 k1]
    have eF : Fz (ov (pnOf cells N sc ρ S) h1) (pinA S H1) = Fz h1 H1 := fz_ov pn n1 so.none
    refine ⟨xs, _, _, _, by rw [eF]; exact dx, relH_ov pn rh so.none cv, q _ ok, ?_, ?_⟩
    · rintro x h' v H' ⟨h2, rfl, n2, q2⟩ dx' r' s' _
      have n3 : ∀ b o, S.lookup b = some o → h2 b = none := fun b o e => by
        obtain ⟨c, y⟩ := pn.some e
        exact n2 b c y
      obtain ⟨r2, e2⟩ := relH_unov pn r' n3
      unfold Sm at s'
      rw [e2] at dx' s'
      rw [eF] at s'
      exact p x h2 v _ q2 dx' r2 (s.trans s')
    · rintro C fs h' H' cls d ⟨h2, rfl, n2, x2⟩ r' e' s' _
      have n3 : ∀ b o, S.lookup b = some o → h2 b = none := fun b o e => by
        obtain ⟨c, y⟩ := pn.some e
        exact n2 b c y
      obtain ⟨r2, e2⟩ := relH_unov pn r' n3
      unfold Sm at s'
      unfold ExcAt at e'
      rw [e2] at e' s'
      rw [eF] at s'
      rcases e with e | e
      · exact thr_at r1 e C fs h2 _ cls d σ x2 r2 e' (sameU s')
      · exact absurd x2 (e C fs h2)
end
end GX

set_option Elab.async false
set_option linter.all false
set_option maxRecDepth 100000
set_option maxHeartbeats 4000000
/-! ### a closure's run -/
namespace GX
open PySem L2 PySem.Spec PyProof.Rows

theorem ex_list {α : Type} : ∀ (n : Nat) (R : Nat → α → Prop), (∀ i, i < n → ∃ a, R i a) → ∃ l : List α, l.length = n ∧ ∀ i a, l[i]? = some a → R i a
  | 0, R, _ => ⟨[], rfl, fun i a e => by cases e⟩
  | n + 1, R, h => by
    obtain ⟨a, ha⟩ := h 0 (Nat.succ_pos n)
    obtain ⟨l, hl, hr⟩ := ex_list n (fun i => R (i + 1)) fun i hi => h (i + 1) (Nat.succ_lt_succ hi)
    refine ⟨a :: l, by rw [List.length_cons, hl], fun i b e => ?_⟩
    cases i with
    | zero => cases e; exact ha
    | succ i => exact hr i b e
theorem pe_ghost {X : Cx} {e : Expr} {t : TE} {g : Nat} {x : Str} (h : PE X e t) (hN : X.N.Nodup) (hx : X.N[g]? = some x) (nv : ¬ Vis X.env.scope x) (v : V) : PE X e (fun σ H Q => t (σ.set g (some v)) H Q) := by
  refine ⟨fun pins s σ H Q I z => ?_⟩
  refine thn (h.run pins s _ H Q (inv_ghost I hN hx nv v) z) ?_
  rintro u s1 ⟨y, H1, I1, r, q⟩
  refine ⟨y, H1, ⟨I1.ok, I1.os, I1.bare, I1.base, ?_, I1.cell, I1.free, I1.freeC, I1.pin, I1.hok, I.len⟩, r, q⟩
  obtain ⟨m, hn, hl⟩ := I1.loc
  refine ⟨m, hn, fun i w v2 e1 e2 e3 => ?_⟩
  have ne : g ≠ i := by
    rintro rfl
    rw [hx] at e1
    cases e1
    exact nv e3
  exact hl i w v2 e1 (by rw [List.getElem?_set_ne ne]; exact e2) e3
section
variable {P : Program} {w : World} {K : PySem.W.Frag} {mg : Str → Option Value} {base : Heap}
  {ρ ρl : Rho} {h Pn : Hs} {Q Q1 : QD} {X X1 : XD} {g k : Nat} {cells : List (Str × Addr)} {N : List Str} {sc : Scope} {f : Addr} {F : CloF} {tb : WX → TE} {gn : Str}
structure LamG0 (F : CloF) (N : List Str) : Prop where
  kind : F.scope.kind = .function
  co : F.scope.isCoroutine = false
  gen : F.scope.isGenerator = false
  noc : ∀ y ∈ F.scope.names, y.2 ≠ .cell
  loc : ∀ y ∈ F.scope.names, y.2 = .local → y.1 ∉ N
  free : ∀ y ∈ F.scope.names, y.2 = .free → ∃ c, F.cl.lookup y.1 = some c
  dn : ∀ n, F.dn = some n → F.scope.names.lookup n = some .local
/-- what the lambda sees of the maker's slots -/
structure LamRho (F : CloF) (N : List Str) (sc : Scope) (cells : List (Str × Addr)) : Prop where
  cl : ∀ x c, F.cl.lookup x = some c → cells.lookup x = some c
  free : ∀ x, F.scope.names.lookup x = some .free → sc.names.lookup x = some .cell ∨ sc.names.lookup x = some .free
theorem runs_of (hf : h f = some (.clo F)) (G0 : LamG0 F N) (B : BindF F) (pn : PnOk cells N sc ρ h Pn) (L : LamRho F N sc cells) (hN : N.Nodup) (hg : N[g]? = some gn) (nv : ¬ Vis F.scope gn)
    (hρ : ∀ (i : Nat) d, ρl[i]? = some (some d) → ρ[i]? = some (some d) ∧ ∃ x, N[i]? = some x ∧ F.scope.names.lookup x = some .free) (hl : ρl.length = N.length)
    (hbody : ∀ (A : Around) (outer : List Env) (s : Shared) (H : Hp) (E : XK) (c' : Addr), A.guards = some [] → Room k (A.deeper (envL F s.heap.objs.size f c')) → PE (cxL P w K mg base N F f c' A outer s H E) F.body (tb (wDef H E)))
    (z : ∀ W, dE (tb W) (ρl.set g (some (.fact (Thr X1 W)))) h Q1)
    (hQ : ∀ x h', Q1 x h' → (∀ b o, Pn b = some o → h' b = none) → Q x (ov Pn h')) (hX : ∀ C fs h', X1 C fs h' → (∀ b o, Pn b = some o → h' b = none) → X C fs (ov Pn h')) :
    RunsD P w K mg base (k + 1) f (ov Pn h) Q X := by
  intro H Q' E' r p px
  have G : LamG F N := ⟨G0.kind, G0.co, G0.gen, G0.noc, G0.loc, G0.free, fun x y c a b => pn.inj x y c (L.cl x c a) (L.cl y c b), G0.dn⟩
  obtain ⟨S, ps, all⟩ := pn.ex
  have n1 : ∀ b o, S.lookup b = some o → h b = none := fun b o e => by
    obtain ⟨c, y⟩ := ps.some e
    exact pn.no b c y
  have at_ := ov_pins ps r
  obtain ⟨r2, eF⟩ := relH_unov ps r n1
  have nf : Pn f = none := by
    cases q : Pn f with
    | none => rfl
    | some o => rw [pn.no f o q] at hf; cases hf
  obtain ⟨dV, doc, pm, c0, ct, k1, k2, k3⟩ := r.cell f _ ((ov_out nf).trans hf)
  have clo : CloAt H H f F := by
    refine ⟨dV, doc, pm, c0, ct, k1, (fz_some k2).2, ?_⟩
    unfold DfOk at k3 ⊢
    cases ed : F.dn with
    | none => rw [ed] at k3; exact k3
    | some n =>
      rw [ed] at k3
      obtain ⟨t, q1, q2⟩ := k3
      exact ⟨t, q1, (fz_some q2).2⟩
  refine ⟨⟨F, dV, doc, pm, c0, ct, k1⟩, fun A outer s hG hr e0 => ?_⟩
  have cv : ∀ b o d, Pn b = some (.cellv o d) → ∃ u v, o.data = .cell (some u) ∧ RelV v u ∧ Dx (Fz h (unpinA S H)) v d := by
    intro b o d e
    obtain ⟨u, v, _, q1, q2, q3⟩ := r.cell b _ (ov_in e)
    rw [eF] at q3
    exact ⟨u, v, q1, q2, q3⟩
  have ats : ∀ (i : Nat) d, ρl[i]? = some (some d) → ∃ x c o u v, N[i]? = some x ∧ F.cl.lookup x = some c ∧ S.lookup c = some o ∧ o.data = .cell (some u) ∧ RelV v u ∧ Dx (Fz h (unpinA S H)) v d := by
    intro i d e
    obtain ⟨e1, x, e2, e3⟩ := hρ i d e
    obtain ⟨c, o, q1, q2⟩ := pn.val i x d e2 e1 (L.free x e3)
    obtain ⟨c2, q3⟩ := G.free _ (PySem.mem_of_lookup e3) rfl
    have := L.cl x c2 q3
    rw [q1] at this
    cases this
    obtain ⟨u, v, q4, q5, q6⟩ := cv c o d q2
    refine ⟨x, c, o, u, v, e2, q3, ?_, q4, q5, q6⟩
    rcases ps.all c with ⟨_, y⟩ | ⟨o', y1, y2⟩
    · rw [q2] at y; cases y
    · rcases y2 with y2 | ⟨d', y2⟩ <;> rw [q2] at y2 <;> cases y2
      exact y1
  obtain ⟨σl, len, prop⟩ := ex_list (α := Option V) N.length
    (fun i ov => (∀ d, ρl[i]? = some (some d) → ∃ v, ov = some v ∧ Dx (Fz h (unpinA S H)) v d) ∧ (∀ v, ov = some v → ∃ x c o u, N[i]? = some x ∧ F.cl.lookup x = some c ∧ S.lookup c = some o ∧ o.data = .cell (some u) ∧ RelV v u)) (fun i hi => by
      cases q : ρl[i]? with
      | none => exact ⟨none, fun d e => (nomatch e), fun v e => (nomatch e)⟩
      | some od =>
        cases od with
        | none => exact ⟨none, fun d e => (nomatch e), fun v e => (nomatch e)⟩
        | some d =>
          obtain ⟨x, c, o, u, v, q1, q2, q3, q4, q5, q6⟩ := ats i d q
          refine ⟨some v, fun d' e => ?_, fun v' e => ?_⟩
          · cases e
            exact ⟨v, rfl, q6⟩
          · cases e
            exact ⟨x, c, o, u, q1, q2, q3, q4, q5⟩)
  have C : CellsS S F N σl := by
    refine ⟨fun x c e => all x c (L.cl x c e), fun i x v e1 e2 e3 => ?_⟩
    obtain ⟨x', c, o, u, q1, q2, q3, q4, q5⟩ := (prop i _ e2).2 v rfl
    rw [e1] at q1
    cases q1
    exact ⟨c, o, u, q2, q3, q4, q5⟩
  have rel : Rel ρl h σl (unpinA S H) := by
    refine ⟨r2, by rw [hl, len], fun i d e => ?_⟩
    have hi : i < σl.length := by rw [len, ← hl]; exact (List.getElem?_eq_some_iff.mp e).1
    obtain ⟨v, ev, dv⟩ := (prop i _ (List.getElem?_eq_getElem hi)).1 d e
    exact ⟨v, by rw [List.getElem?_eq_getElem hi, ev], dv⟩
  have up : ∀ {h' : Hs} {H' : Hp}, RelH h' H' → Sm h (unpinA S H) h' H' → (∀ b o, S.lookup b = some o → H' b = none) →
      (∀ b o, Pn b = some o → h' b = none) ∧ RelH (ov Pn h') (pinA S H') ∧ Fz (ov Pn h') (pinA S H') = Fz h' H' ∧ Sm (ov Pn h) H (ov Pn h') (pinA S H') := by
    intro h' H' rh s no
    have n3 : ∀ b o, S.lookup b = some o → h' b = none := fun b o e => rh.no (no b o e)
    have e3 := fz_ov ps n3 no
    refine ⟨fun b o e => ?_, relH_ov ps rh no fun b o d e => ?_, e3, ?_⟩
    · cases q : S.lookup b with
      | some o2 => exact n3 b o2 q
      | none =>
        rcases ps.all b with ⟨_, y⟩ | ⟨o', y, _⟩
        · rw [e] at y; cases y
        · rw [q] at y; cases y
    · obtain ⟨u, v, q1, q2, q3⟩ := cv b o d e
      exact ⟨u, v, q1, q2, q3.mono s⟩
    · unfold Sm
      rw [e3, eF]
      exact s
  have px2 : PostX h (unpinA S H) X1 (fun c d H' => (∀ b o, S.lookup b = some o → H' b = none) → E' c d (pinA S H')) := by
    intro C fs h' H' cls d x rh e s no
    obtain ⟨n3, rh2, e3, s2⟩ := up rh s no
    refine px C fs _ _ cls d (hX C fs h' x n3) rh2 ?_ s2
    unfold ExcAt at e ⊢
    rw [e3]
    exact e
  refine run_clo (E := fun c d H' => (∀ b o, S.lookup b = some o → H' b = none) → E' c d (pinA S H')) (Q := fun v H' => (∀ b o, S.lookup b = some o → H' b = none) → Q' v (pinA S H')) e0 hr clo G B at_ C len
    (fun c' hr2 => pe_ghost (hbody A outer s _ _ c' hG hr2) hN hg nv (.ref 0)) ?_ (fun v H' no q => q no) (fun c d H' no q => q no)
  refine z _ _ _ _ (rel.set (dx_thr (thr_def px2)) g) ?_
  rintro x h' v H' q dx rh s no
  obtain ⟨n3, rh2, e3, s2⟩ := up rh s no
  exact p x _ v _ (hQ x h' q n3) (by rw [e3]; exact dx) rh2 s2
end
end GX

set_option Elab.async false
set_option linter.all false
set_option maxRecDepth 100000
set_option maxHeartbeats 4000000
/-! ### the law's head, with tables of code objects -/
namespace GX
open PySem L2 PySem.Spec PyProof.Rows

section
variable {P : Program} {w : World} {K : PySem.W.Frag} {mg mb : Str → Option Value} {k : Nat} {fa a : Addr} {fd : FuncData} {x : Str} {sp : Sp} {s1 : Shared} {vs : List Value} {ns : List Int} {cs : List (Addr × Addr)}
abbrev emptyTab : Obj := { cls := .none, data := .fields #[] }
/-- the abstract heap at the law's entry -/
structure StartH (H : Hp) (a : Addr) (cs : List (Addr × Addr)) (h : Heap) (K : PySem.W.Frag) : Prop where
  tab : ∀ p ∈ cs, H p.2 = some (.tbl #[])
  all : ∀ b u, H b = some u → b ∈ cs.map (·.2) ∨ (b = a ∧ K.lookup a = none ∧ ∃ o xs, u = .frz o (.lst xs))
theorem core_tabs (KX : K.In s1.heap) (hns : s1.heap.Ns mainGlobals mg) (hb : s1.heap.Ns builtinsNs mb) (hbb : ∀ y : Str, y ≠ "__name__" → mb y = bootBuiltins y) (hlim : s1.heap.NoLimit) (hgen : s1.gens = #[])
    (hT : ∀ p ∈ cs, s1.heap.get? p.2 = some emptyTab) (nT : ∀ p ∈ cs, K.lookup p.2 = none) (C : ∀ p ∈ cs, PySem.W.CodeHd s1.heap p.1 p.2)
    (hbm : ∃ (bm : Addr) (ob : Obj), mg "__builtins__" = some (.ref bm) ∧ bm ≠ builtinsNs ∧ s1.heap.get? bm = some ob ∧ ob.cls = .type "module" ∧ ob.dict = some builtinsNs ∧ ob.data = .plain)
    (ha : s1.heap.get? a = some { cls := .type "list", data := .seq vs.toArray }) (hr : Room k callerA)
    (F : ∀ base : Heap, K.In base → base.Ns mainGlobals mg → (∀ p ∈ cs, LamX.TabB base mg p.1 p.2) → FnG P w K mg base CX0 k fa fd [x] sp)
    (hbind : ∀ (s : Shared) (u : Value), BindsTo s fd ⟨[u], []⟩ [(x, u)]) (H : Hp) (hsp : sp [.ref a] H (fun v _ => v = .bl true) fun _ _ _ => False) (hok : HOk P w H s1.heap) (sH : StartH H a cs s1.heap K) :
    codeAny (model P w) callerA (.call (.ref fa) ⟨[.ref a], []⟩) (LawEnd s1) s1 := by
  have tabAt : ∀ {b : Addr}, b ∈ cs.map (·.2) → s1.heap.get? b = some emptyTab := by
    intro b hm
    obtain ⟨p, hp, e⟩ := List.mem_map.mp hm
    exact e ▸ hT p hp
  have free : ∀ {b : Addr} {o : Obj}, s1.heap.get? b = some o → (∀ us n, o.data ≠ .seq us n) → o.data ≠ .fields #[] → H b = none := by
    intro b o e n1 n2
    cases q : H b with
    | none => rfl
    | some u =>
      rcases sH.all b u q with z | ⟨rfl, _⟩
      · rw [tabAt z] at e
        cases e
        exact absurd rfl n2
      · rw [ha] at e
        cases e
        exact absurd rfl (n1 _ _)
  have down : ∀ {b : Addr} {o : Obj}, s1.heap.get? b = some o → H b = none → (hidT s1.heap H).get? b = some o := fun e n => hidT_get e n
  have nsD : ∀ {b : Addr} {m : Str → Option Value}, s1.heap.Ns b m → (hidT s1.heap H).Ns b m := by
    rintro b m ⟨o, es, ep, e, d, r⟩
    exact ⟨o, es, ep, down e (free e (fun us n z => by rw [d] at z; cases z) (fun z => by rw [d] at z; cases z)), d, r⟩
  have kD : K.In (hidT s1.heap H) := by
    intro b o e
    refine down (KX b o e) ?_
    cases q : H b with
    | none => rfl
    | some u =>
      rcases sH.all b u q with z | ⟨rfl, z, _⟩
      · obtain ⟨p, hp, e2⟩ := List.mem_map.mp z
        rw [← e2, nT p hp] at e
        cases e
      · rw [z] at e
        cases e
  have lim : (hidT s1.heap H).NoLimit := by
    obtain ⟨mc, h1, h2⟩ := hlim
    exact ⟨mc, nsD h1, h2⟩
  have modD : Mod K mg (hidT s1.heap H) := ⟨kD, nsD hns, ⟨mb, nsD hb, hbb⟩, lim⟩
  have tabs : ∀ p ∈ cs, LamX.TabB (hidT s1.heap H) mg p.1 p.2 := by
    intro p hp
    have tp := hT p hp
    refine ⟨?_, ?_, ?_⟩
    · obtain ⟨o, us, file, tf, flags, tg, inF, text, tt, e1, r1, r2, r3, r4, r5, r6, r7, r8, hne⟩ := C p hp
      have e2 := free e1 (fun us n z => by rw [r2] at z; cases z) (fun z => by rw [r2] at z; cases z; simp at r3)
      exact ⟨o, us, file, tf, flags, tg, inF, text, tt, down e1 e2, r1, r2, r3, r4, r5, r6, r7, r8, hne⟩
    · obtain ⟨bm, ob, b1, b2, b3, b4, b5, b6⟩ := hbm
      have e2 := free b3 (fun us n z => by rw [b6] at z; cases z) (fun z => by rw [b6] at z; cases z)
      refine ⟨bm, ob, b1, b2, ?_, ?_, down b3 e2, b4, b5, b6⟩
      · rintro rfl
        obtain ⟨o, es, ep, e, hd, _⟩ := hns
        rw [e] at b3
        cases b3
        rw [hd] at b6
        cases b6
      · rintro rfl
        rw [tp] at b3
        cases b3
        cases b6
    · rintro z
      obtain ⟨o, es, ep, e, hd, _⟩ := hns
      rw [z, tp] at e
      cases e
      cases hd
  have e0 : Env0 P w K mg (hidT s1.heap H) callerA [] s1 H := by
    refine ⟨rfl, modD, fun b o e => of_hidT e, Nat.le_of_eq (hidT_size _ _), trivial, ?_, hok, .of_eq hgen⟩
    intro b hm
    exact absurd (show b ∈ ([] : List Addr) from hm) (by simp)
  have z := (F _ kD (nsD hns) tabs).run callerA [] s1 H ⟨[.ref a], []⟩ [.ref a] [.ref a] _ _ rfl hr e0 (hbind s1 (.ref a)) (.cons rfl .nil) hsp
  refine codeAny_mono z ?_
  intro r s' h
  match r, h with
  | .error e, h => exact False.elim h
  | .ok (.ret u), h =>
    obtain ⟨v, H', os, bare, un, hok', r', q⟩ := h
    obtain rfl : v = .bl true := q
    obtain rfl : u = Value.bool true := r'
    have more : ∀ p ∈ cs, ∃ m : Array Value, s'.heap.get? p.2 = some { cls := .none, data := .fields m } := by
      intro p hp
      obtain ⟨m, y⟩ := un.tbls p.2 #[] (sH.tab p hp)
      exact ⟨_, hok' p.2 _ y⟩
    have same : ∀ b o, b ∉ cs.map (·.2) → s1.heap.get? b = some o → s'.heap.get? b = some o := by
      intro b o nb e
      cases q : H b with
      | none => exact un.keep b o e q (fun z => by cases z) (fun z => by cases z)
      | some u =>
        rcases sH.all b u q with y | ⟨_, _, ob, xs, rfl⟩
        · exact absurd y nb
        · obtain ⟨e1, _⟩ := hok b _ q
          obtain ⟨e2, _⟩ := hok' b _ (un.frzs b ob _ q)
          rw [e] at e1
          cases e1
          exact e2
    refine ⟨rfl, ⟨fun b o e => ?_, fun b o e => ?_⟩, os, bare⟩
    · by_cases hm : b ∈ cs.map (·.2)
      · obtain ⟨p, hp, rfl⟩ := List.mem_map.mp hm
        obtain ⟨m, y⟩ := more p hp
        rw [hT p hp] at e
        cases e
        refine .inr (.inl ⟨((C p hp).tab (hT p hp)).isCodeTable, rfl, #[], m, rfl, ?_⟩)
        rw [Array.empty_append]
        exact y
      · exact .inl (same b o hm e)
    · by_cases hm : b ∈ cs.map (·.2)
      · obtain ⟨p, hp, rfl⟩ := List.mem_map.mp hm
        obtain ⟨m, y⟩ := more p hp
        exact ⟨_, y⟩
      · exact ⟨o, same b o hm e⟩
theorem law_tabs (KX : K.In s1.heap) (hns : s1.heap.Ns mainGlobals mg) (hb : s1.heap.Ns builtinsNs mb) (hbb : ∀ y : Str, y ≠ "__name__" → mb y = bootBuiltins y) (hlim : s1.heap.NoLimit) (hgen : s1.gens = #[])
    (hT : ∀ p ∈ cs, s1.heap.get? p.2 = some emptyTab) (nT : ∀ p ∈ cs, K.lookup p.2 = none) (C : ∀ p ∈ cs, PySem.W.CodeHd s1.heap p.1 p.2)
    (hbm : ∃ (bm : Addr) (ob : Obj), mg "__builtins__" = some (.ref bm) ∧ bm ≠ builtinsNs ∧ s1.heap.get? bm = some ob ∧ ob.cls = .type "module" ∧ ob.dict = some builtinsNs ∧ ob.data = .plain)
    (ha : s1.heap.get? a = some { cls := .type "list", data := .seq vs.toArray }) (hi : IntsAre vs ns) (hl : ns.length ≤ sizeLine) (hr : Room k callerA)
    (F : ∀ base : Heap, K.In base → base.Ns mainGlobals mg → (∀ p ∈ cs, LamX.TabB base mg p.1 p.2) → FnG P w K mg base CX0 k fa fd [x] sp)
    (hbind : ∀ (s : Shared) (u : Value), BindsTo s fd ⟨[u], []⟩ [(x, u)]) (hsp : ∀ H : Hp, (∀ p ∈ cs, H p.2 = some (.tbl #[])) → SqL K H a (ns.map V.int) → sp [.ref a] H (fun v _ => v = .bl true) fun _ _ _ => False) :
    codeAny (model P w) callerA (.call (.ref fa) ⟨[.ref a], []⟩) (LawEnd s1) s1 := by
  have rv := vals_ints hi
  have core := core_tabs (x := x) (sp := sp) (fa := fa) (fd := fd) (k := k) KX hns hb hbb hlim hgen hT nT C hbm ha hr F hbind
  have tabAt : ∀ {b : Addr}, b ∈ cs.map (·.2) → s1.heap.get? b = some emptyTab := by
    intro b hm
    obtain ⟨p, hp, e⟩ := List.mem_map.mp hm
    exact e ▸ hT p hp
  have aT : a ∉ cs.map (·.2) := by
    intro z
    have e := tabAt z
    rw [ha] at e
    have e := congrArg Obj.data (Option.some.inj e)
    cases e
  let o0 : Obj := { cls := .type "list", data := .seq vs.toArray }
  let H : Hp := fun b => if b ∈ cs.map (·.2) then some (.tbl #[]) else if b = a ∧ K.lookup a = none then some (.frz o0 (.lst (ns.map V.int))) else none
  have inT : ∀ {b}, b ∈ cs.map (·.2) → H b = some (.tbl #[]) := fun hm => if_pos hm
  have sh : StartH H a cs s1.heap K := by
    refine ⟨fun p hp => inT (List.mem_map.mpr ⟨p, hp, rfl⟩), fun b u e => ?_⟩
    by_cases hm : b ∈ cs.map (·.2)
    · exact .inl hm
    · have e : (if b = a ∧ K.lookup a = none then some (HO.frz o0 (.lst (ns.map V.int))) else none) = some u := (if_neg hm).symm.trans e
      split at e
      · rename_i y
        cases e
        exact .inr ⟨y.1, y.2, _, _, rfl⟩
      · cases e
  have sq : SqL K H a (ns.map V.int) := by
    cases hk : K.lookup a with
    | some o =>
      have e := KX a o hk
      rw [ha] at e
      cases e
      exact .inr ⟨_, vs.toArray, _, hk, rfl, rfl, rfl, by rw [List.size_toArray, hi.length]; exact hl, by simpa using rv⟩
    | none =>
      refine .inl (.inr ⟨o0, ?_⟩)
      show (if a ∈ cs.map (·.2) then some (HO.tbl #[]) else if a = a ∧ K.lookup a = none then some (HO.frz o0 (.lst (ns.map V.int))) else none) = _
      rw [if_neg aT, if_pos ⟨rfl, hk⟩]
  refine core H (hsp H sh.tab sq) (fun b u e => ?_) sh
  by_cases hm : b ∈ cs.map (·.2)
  · rw [inT hm] at e
    cases e
    exact tabAt hm
  · have e : (if b = a ∧ K.lookup a = none then some (HO.frz o0 (.lst (ns.map V.int))) else none) = some u := (if_neg hm).symm.trans e
    split at e
    · rename_i y
      cases e
      rw [y.1]
      exact ⟨ha, by rw [List.length_map]; exact hl, vs, _, rv, ha⟩
    · cases e
end
/-- the tables are those of defs of the text -/
def TabsFrom (q : Program) (K : PySem.W.Frag) (cs : List (Addr × Addr)) : Prop := ∀ p ∈ cs, ∃ (x : Str) (d : DefRec), (recsOf q).find? (fun e => e.name == x) = some d ∧ PySem.W.tabIn K x = some p ∧ K.lookup p.2 = none
/-- what is known of the law's promise at the head's heap -/
def LawAtG (l : PySem.W.OpenLaw) (q : Program) (w : World) (K : PySem.W.Frag) (k n : Nat) (x : Str) (mg : Str → Option Value) (fa : Addr) : Prop :=
  ∃ (fd : FuncData) (cs : List (Addr × Addr)) (sp : Sp), TabsFrom q K cs ∧ (∀ (s : Shared) (u : Value), BindsTo s fd ⟨[u], []⟩ [(x, u)]) ∧
    (∀ (H : Hp) (a : Addr) (ns : List Int), ns.length ≤ n → (∀ z ∈ ns, Builtin.Int.intBits z ≤ 1048576) → (∀ p ∈ cs, H p.2 = some (.tbl #[])) → SqL K H a (ns.map V.int) → sp [.ref a] H (fun v _ => v = .bl true) fun _ _ _ => False) ∧
    ∀ base : Heap, K.In base → base.Ns mainGlobals mg → (∀ p ∈ cs, LamX.TabB base mg p.1 p.2) → FnG l.prog w K mg base CX0 k fa fd [x] sp
theorem walk_ofTG {l : PySem.W.OpenLaw} {n k : Nat} {q : Program} {loose : List Str} {XP : (Str → Option Value) → Heap → Prop} {YP : World → Heap → Prop} {d : DefRec} {K : Params → PySem.W.Frag} {x : Str} (hn : l.most = some n) (hn2 : n ≤ sizeLine)
    (hdf : d.params.defaults = []) (hr : Room k callerA) (hY : ∀ (w : World) (h : Heap), YP w h → (K w.params).In h)
    (F : ∀ (w : World) (mg : Str → Option Value) (fa : Addr) (h : Heap), (K w.params).In h → h.Ns mainGlobals mg → mg d.name = some (.ref fa) → LawAtG l q w (K w.params) k n x mg fa) :
    PySem.W.WalkO q loose XP YP l.row.toRowW d [] (fun f vs => PySem.call f vs) := by
  refine Att.attach_callB hn hdf ?_
  intro w s0 s1 mg mb fa o pm cd doc a vs ns G Y ho hd hcd hmg hobj hints hlen hbits hg
  have KX := hY w _ Y
  obtain ⟨fd, cs, sp, hcs, hb, hsp, hF⟩ := F w mg fa _ KX G.T.g hmg
  have tab : ∀ p ∈ cs, PySem.W.CodeHd s1.heap p.1 p.2 ∧ s1.heap.get? p.2 = some emptyTab := by
    intro p hp
    obtain ⟨y, d2, e1, e2, _⟩ := hcs p hp
    exact PySem.W.tab_of G.T KX e1 e2
  exact law_tabs KX G.T.g G.T.b G.T.builtins G.T.nolimit hg (fun p hp => (tab p hp).2) (fun p hp => (hcs p hp).choose_spec.choose_spec.2.2) (fun p hp => (tab p hp).1) G.T.bmain hobj hints (Nat.le_trans hlen hn2) hr hF hb (fun H hH hS => hsp H a ns hlen hbits hH hS)
end GX

set_option Elab.async false
set_option linter.all false
set_option maxRecDepth 100000
set_option maxHeartbeats 4000000
/-! ### what each law with lambdas shares -/
namespace GX
open PySem L2 PySem.Spec PyProof.Rows

theorem takes_lam {P : Program} {w : World} {K : PySem.W.Frag} {mg : Str → Option Value} {base : Heap} {N : List Str} {F : CloF} {f c' : Addr} {A : Around} {outer : List Env} {s : Shared} {H : Hp} {E : XK} :
    Takes (cxL P w K mg base N F f c' A outer s H E) (wDef H E) := takes_relk (X := cxL P w K mg base N F f c' A outer s H E) (W := fun cls d _ H' => E cls d H') (takes_of rfl rfl rfl rfl)
theorem passes_lam {P : Program} {w : World} {K : PySem.W.Frag} {mg : Str → Option Value} {base : Heap} {N : List Str} {F : CloF} {f c' : Addr} {A : Around} {outer : List Env} {s : Shared} {H : Hp} {E : XK} :
    PassesOwn (model P w) (cxL P w K mg base N F f c' A outer s H E).A (cxL P w K mg base N F f c' A outer s H E).env (cxL P w K mg base N F f c' A outer s H E).xe := passes_of rfl
/-- where no exception is let out -/
abbrev wNo : WX := fun _ _ _ _ => False
theorem passF {X : Cx} (σ : L2.St) : PassesAt (L2.CX X.prog X.w) X σ (WE wNo σ) := fun _ _ _ _ _ _ ⟨_, _, _, _, _, _, _, _, _, _, _, _, z⟩ => z.elim
theorem guards_mark {A : Around} {h : Option Value} (g : A.guards = some []) : (A.mark h).guards = some [] := g
theorem unitsN {k : Nat} {A : Around} (r : L2H.RoomH k A) : A.units + 64 < cLine := by have := r.un; omega
theorem unitsN65 {k : Nat} {A : Around} (r : L2H.RoomH k A) : A.units + 65 < cLine := by have := r.un; omega
theorem roomN_mark {k : Nat} {A : Around} {h : Option Value} (r : Room k A) : L2H.RoomH k (A.mark h) := ⟨r.dp, r.un⟩
section
variable {P : Program} {w : World} {K : PySem.W.Frag} {mg : Str → Option Value} {base : Heap}
/-- okG, the def's code object told -/
theorem okGc {x qual : Str} {st : Stmt} {f : Addr} {fd : FuncData} {N ps : List Str} {k : Nat} {sp : Sp} (F : Fun K x qual st f fd) (S : FnScope N ps (defScope st)) (len : ∀ vs H Q E, sp vs H Q E → vs.length = ps.length)
    (hbody : ∀ (cdv : Value) (A : Around) (outer : List Env) (s : Shared) (H : Hp) (vs : List V) (Q : VK) (E : XK), fd.code = cdv → A.guards = some [] → Room k (A.deeper (envOfC qual (defScope st) s.heap.objs.size f cdv)) → sp vs H Q E →
      ∃ t, PSs (cxOf CX0 P w K mg base N qual (defScope st) f cdv A outer s H E).nox (defBody st) t ∧ t { nx := fun _ H' => Q .non H', rt := Q } (start N vs) H) : FnG P w K mg base CX0 (k + 1) f fd ps sp := by
  obtain ⟨oc, od, kV, doc, pm, an, cdv, ct, osl, rfl, lk, hcd⟩ := F.ex
  refine fnG_of lk hcd S len ?_
  intro A outer s H vs Q E hg hr hsp
  obtain ⟨t, h, q⟩ := hbody cdv A outer s H vs Q E rfl hg hr hsp
  exact ⟨t, h.nox, q⟩
theorem okDc {x qual : Str} {st : Stmt} {f : Addr} {fd : FuncData} {N ps : List Str} {k : Nat} {t : TD} (F : Fun K x qual st f fd) (S : FnScope N ps (defScope st)) (len : ∀ ds h Q, t ds h Q → ds.length = ps.length)
    (hbody : ∀ (cdv : Value) (A : Around) (outer : List Env) (s : Shared) (H : Hp) (E : XK), fd.code = cdv → A.guards = some [] → Room k (A.deeper (envOfC qual (defScope st) s.heap.objs.size f cdv)) →
      ∃ tb, PSs (cxOf CX0 P w K mg base N qual (defScope st) f cdv A outer s H E).nox (defBody st) tb ∧ ∀ ds h Q, t ds h Q → dS tb (endD Q) (startD N ds) h) : FnG P w K mg base CX0 (k + 1) f fd ps (spD t) := by
  refine okGc F S (fun vs H Q E ⟨ds, h, Q2, a, _, z, _⟩ => a.len.trans (len ds h Q2 z)) fun cdv A outer s H vs Q E hc hg hr ⟨ds, h, Q2, a, rh, z, p⟩ => ?_
  obtain ⟨tb, hp, q⟩ := hbody cdv A outer s H E hc hg hr
  refine ⟨tb, hp, q ds h Q2 z _ H _ (rel_start a rh) ⟨fun ρ' h' σ' H' q r s => p _ h' _ H' q .non r.rh s, p, fun _ _ _ _ q => q.elim, fun _ _ _ _ q => q.elim⟩⟩
/-- a def that lets no exception out here -/
theorem FnG.quiet {k : Nat} {f : Addr} {fd : FuncData} {ps : List Str} {t : TDX} {t' : TD} (F : FnG P w K mg base (L2.CX P w) k f fd ps (spDX t)) (m : ∀ ds h Q, t' ds h Q → t ds h Q fun _ _ _ => False) : FnG P w K mg base CX0 k f fd ps (spD t') := by
  have up : ∀ vs H Q E, spD t' vs H Q E → spDX t vs H Q fun _ _ _ => False := fun vs H Q E ⟨ds, h, Q2, a, r, z, p⟩ => ⟨ds, h, Q2, fun _ _ _ => False, a, r, m _ _ _ z, p, fun _ _ _ _ _ _ x => x.elim⟩
  refine ⟨fun vs H Q E z => F.len vs H Q _ (up vs H Q E z), fun A outer s H args us vs Q E g hr e0 b r z => ?_⟩
  refine codeAny_mono (F.run A outer s H args us vs Q _ g hr e0 b r (up vs H Q E z)) fun r s' q => ?_
  match r, q with
  | .ok (.ret u), q => exact q
  | .error e, ⟨_, _, _, _, _, _, _, _, _, _, _, _, y⟩ => exact y.elim
end
/-! ### lambdas of a def -/
/-- what a look at the text tells of a lambda within a def of the scope sc -/
structure LamT (ls sc : Scope) (N : List Str) (dn : Option Str) : Prop where
  kind : ls.kind = .function
  co : ls.isCoroutine = false
  gen : ls.isGenerator = false
  all : (ls.names.all fun y => !decide (y.2 = .cell) && (!decide (y.2 = .local) || !decide (y.1 ∈ N)) && (!decide (y.2 = .free) || decide (sc.names.lookup y.1 = some .cell))) = true
  dn : ∀ n, dn = some n → ls.names.lookup n = some .local
theorem clo_look {cells : List (Str × Addr)} {names : List (Str × NameKind)} (fr : ∀ y ∈ names, y.2 = .free → ∃ c, cells.lookup y.1 = some c) {x : Str} {c : Addr} (e : (cloFrom cells names []).lookup x = some c) : cells.lookup x = some c := by
  rcases cloFrom_mem (PySem.mem_of_lookup e) with m | ⟨m, r⟩
  · cases m
  · obtain ⟨c2, e2⟩ := fr _ m rfl
    have e2 : cells.lookup x = some c2 := e2
    have : c = c2 := by rw [r, e2] <;> rfl
    rw [this]
    exact e2
section
variable {F : CloF} {sc : Scope} {N : List Str} {n0 : Nat}
theorem LamT.at (T : LamT F.scope sc N F.dn) {y : Str × NameKind} (m : y ∈ F.scope.names) : y.2 ≠ .cell ∧ (y.2 = .local → y.1 ∉ N) ∧ (y.2 = .free → sc.names.lookup y.1 = some .cell) := by
  have z := List.all_eq_true.mp T.all y m
  simp only [Bool.and_eq_true, Bool.or_eq_true, Bool.not_eq_true', decide_eq_true_eq, decide_eq_false_iff_not] at z
  exact ⟨z.1.1, fun e => z.1.2.resolve_left fun k => k e, fun e => z.2.resolve_left fun k => k e⟩
theorem lam_fr (T : LamT F.scope sc N F.dn) : ∀ y ∈ F.scope.names, y.2 = .free → ∃ c, (cellsFrom n0 sc.names []).lookup y.1 = some c := fun y m e => cell_has ((T.at m).2.2 e)
theorem lamG0_of (T : LamT F.scope sc N F.dn) (hc : F.cl = cloFrom (cellsFrom n0 sc.names []) F.scope.names []) : LamG0 F N := by
  refine ⟨T.kind, T.co, T.gen, fun y m => (T.at m).1, fun y m => (T.at m).2.1, fun y m e => ?_, T.dn⟩
  obtain ⟨x, k⟩ := y
  obtain rfl : k = .free := e
  rw [hc]
  exact mem_lookup (cloFrom_has (acc := []) m)
theorem lamRho_of (T : LamT F.scope sc N F.dn) (hc : F.cl = cloFrom (cellsFrom n0 sc.names []) F.scope.names []) : LamRho F N sc (cellsFrom n0 sc.names []) :=
  ⟨fun x c e => clo_look (lam_fr T) (hc ▸ e), fun x e => .inl ((T.at (PySem.mem_of_lookup e)).2.2 rfl)⟩
end
/-! ### what is told of a caught exception -/
def fldsOf (wd : Str) (fs : List (Str × D)) : Option (List D) :=
  let one := fun n : Str => (fs.lookup n).map fun x => [x]
  let two := fun n m : Str => (fs.lookup n).bind fun x => (fs.lookup m).map fun y => [x, y]
  if wd ∈ (["InvalidName", "DuplicateName", "WrongSort", "UnknownName"] : List Str) then one "name"
  else if wd ∈ (["EmptyKind", "UnknownKind"] : List Str) then one "kind"
  else if wd ∈ (["TooMany", "TooWide"] : List Str) then one "most"
  else if wd ∈ (["InvalidSteps", "InvalidClaim"] : List Str) then one "at"
  else if wd ∈ (["InvalidPattern", "UnknownConstructor"] : List Str) then one "constructor"
  else if wd = "InvalidRule" then two "constructor" "measure"
  else if wd = "UnknownMeasure" then one "measure"
  else if wd ∈ (["InvalidText", "InvalidPage"] : List Str) then one "line"
  else if wd ∈ (["InUse", "Breaks"] : List Str) then one "by"
  else if wd = "Aborted" then two "at" "why"
  else some []
/-- an exception of the class C whose fields may be read -/
structure XcOk (K : PySem.W.Frag) (C : Addr) (fs : List (Str × D)) : Prop where
  xf : XfC K C
  no : ∀ n y, fs.lookup n = some y → PySem.W.findIn K (.ref C) n = some none
def tFields (K : PySem.W.Frag) : TD := fun ds h Q => ∃ b dd C fs oe wd r, ds = [.xc b dd C fs, .str wd] ∧ h b = some (.pin oe) ∧ Zc (.ref C) (some dd) oe ∧ (∃ us, oe.data = .fields us) ∧ XcOk K C fs ∧ fldsOf wd fs = some r ∧ Q (.tup r) h
/-- what _law_tried tells of an exception -/
def Told (K : PySem.W.Frag) (Cv Cm C : Addr) (fs : List (Str × D)) (wd : Str) (r : List D) : Prop := PySem.W.exmAny K (.ref C) [.ref Cv, .ref Cm] = some true ∧ XcOk K C fs ∧ fs.lookup ("word" : Str) = some (.str wd) ∧ fldsOf wd fs = some r
def tTried (P : Program) (w : World) (K : PySem.W.Frag) (mg : Str → Option Value) (base : Heap) (k : Nat) (Cv Cm : Addr) : TDX := fun ds h Q X => ∃ f Q1 X1, ds = [.ref f] ∧ RunsD P w K mg base k f h Q1 X1 ∧
  (∀ x h1, Q1 x h1 → Q (.tup [x, .str "", .tup []]) h1) ∧ ∀ C fs h1, X1 C fs h1 → ∃ wd r, Told K Cv Cm C fs wd r ∧ Q (.tup [.non, .str wd, .tup r]) h1
def tWhy (P : Program) (w : World) (K : PySem.W.Frag) (mg : Str → Option Value) (base : Heap) (k : Nat) (Cv Cm : Addr) : TDX := fun ds h Q X => ∃ f Q1 X1, ds = [.ref f] ∧ RunsD P w K mg base k f h Q1 X1 ∧
  (∀ x h1, Q1 x h1 → Q (.tup [.str "", .tup []]) h1) ∧ ∀ C fs h1, X1 C fs h1 → ∃ wd r, Told K Cv Cm C fs wd r ∧ Q (.tup [.str wd, .tup r]) h1
/-! ### why(lambda: ..), tried(lambda: ..), said by the def whose names the lambda reads -/
section
variable {P : Program} {w : World} {K : PySem.W.Frag} {mg : Str → Option Value} {base : Heap} {ρ ρl : Rho} {h : Hs} {Q : QD} {g k n0 : Nat} {N : List Str} {sc : Scope} {L Cv Cm : Addr} {F : CloF} {tb : WX → TE} {gn : Str}
theorem d_why (hN : N.Nodup) (hP : h L = some (.tab F.q)) (T : LamT F.scope sc N F.dn) (B : BindF F) (hc : F.cl = cloFrom (cellsFrom n0 sc.names []) F.scope.names []) (hg : N[g]? = some gn) (nv : ¬ Vis F.scope gn)
    (hbody : ∀ (f : Addr) (A : Around) (outer : List Env) (s : Shared) (H : Hp) (E : XK) (c' : Addr) (W : WX), Takes (cxL P w K mg base N F f c' A outer s H E) W → A.guards = some [] → Room k (A.deeper (envL F s.heap.objs.size f c')) → PE (cxL P w K mg base N F f c' A outer s H E) F.body (tb W))
    (hρ : ∀ (i : Nat) d, ρl[i]? = some (some d) → ρ[i]? = some (some d) ∧ ∃ x, N[i]? = some x ∧ F.scope.names.lookup x = some .free) (hl : ρl.length = N.length)
    (z : ∀ W f, h f = none → dE (tb W) (ρl.set g (some (.fact (Thr (fun C fs h1 => ∃ wd r, Told K Cv Cm C fs wd r ∧ h1 f = some (.clo F) ∧ Q (.tup [.str wd, .tup r]) (delh h1 f)) W)))) (seth h f (.clo F)) fun _ h1 => h1 f = some (.clo F) ∧ Q (.tup [.str "", .tup []]) (delh h1 f)) :
    dE (tCallC (cellsFrom n0 sc.names []) N sc (spDX (tWhy P w K mg base (k + 1) Cv Cm)) (WE wNo) (tCons (tLam L F) tNil)) ρ h Q := by
  refine d_drop1 (c := .held) ?_
  refine d_callC (g := 0) (X := fun _ _ _ => False) hN (.inr fun _ _ _ z => z) (d_cons (d_lam hP fun f nf => d_nil fun Pn pn => ?_))
  refine ⟨f, liftQ Pn fun x h1 => h1 f = some (.clo F) ∧ Q (.tup [.str "", .tup []]) (delh h1 f), liftX Pn fun C fs h1 => ∃ wd r, Told K Cv Cm C fs wd r ∧ h1 f = some (.clo F) ∧ Q (.tup [.str wd, .tup r]) (delh h1 f), rfl,
    runs_of seth_same (lamG0_of T hc) B pn (lamRho_of T hc) hN hg nv hρ hl (fun A outer s H E c' hG hr => hbody f A outer s H E c' _ takes_lam hG hr) (fun W => z W f nf) (fun x h' q no => ⟨h', rfl, no, q⟩) (fun C fs h' x no => ⟨h', rfl, no, x⟩), ?_, ?_⟩
  · rintro x h1 ⟨h2, rfl, no, q1, q2⟩
    exact ⟨h2, rfl, no, f, _, q1, (fun _ y => (nomatch y)), (fun y => (nomatch y)), q2⟩
  · rintro C fs h1 ⟨h2, rfl, no, wd, r, q0, q1, q2⟩
    exact ⟨wd, r, q0, h2, rfl, no, f, _, q1, (fun _ y => (nomatch y)), (fun y => (nomatch y)), q2⟩
theorem d_tried (hN : N.Nodup) (hP : h L = some (.tab F.q)) (T : LamT F.scope sc N F.dn) (B : BindF F) (hc : F.cl = cloFrom (cellsFrom n0 sc.names []) F.scope.names []) (hg : N[g]? = some gn) (nv : ¬ Vis F.scope gn)
    (hbody : ∀ (f : Addr) (A : Around) (outer : List Env) (s : Shared) (H : Hp) (E : XK) (c' : Addr) (W : WX), Takes (cxL P w K mg base N F f c' A outer s H E) W → A.guards = some [] → Room k (A.deeper (envL F s.heap.objs.size f c')) → PE (cxL P w K mg base N F f c' A outer s H E) F.body (tb W))
    (hρ : ∀ (i : Nat) d, ρl[i]? = some (some d) → ρ[i]? = some (some d) ∧ ∃ x, N[i]? = some x ∧ F.scope.names.lookup x = some .free) (hl : ρl.length = N.length)
    (z : ∀ W f, h f = none → dE (tb W) (ρl.set g (some (.fact (Thr (fun C fs h1 => ∃ wd r, Told K Cv Cm C fs wd r ∧ h1 f = some (.clo F) ∧ Q (.tup [.non, .str wd, .tup r]) (delh h1 f)) W)))) (seth h f (.clo F)) fun x h1 => h1 f = some (.clo F) ∧ Q (.tup [x, .str "", .tup []]) (delh h1 f)) :
    dE (tCallC (cellsFrom n0 sc.names []) N sc (spDX (tTried P w K mg base (k + 1) Cv Cm)) (WE wNo) (tCons (tLam L F) tNil)) ρ h Q := by
  refine d_drop1 (c := .held) ?_
  refine d_callC (g := 0) (X := fun _ _ _ => False) hN (.inr fun _ _ _ z => z) (d_cons (d_lam hP fun f nf => d_nil fun Pn pn => ?_))
  refine ⟨f, liftQ Pn fun x h1 => h1 f = some (.clo F) ∧ Q (.tup [x, .str "", .tup []]) (delh h1 f), liftX Pn fun C fs h1 => ∃ wd r, Told K Cv Cm C fs wd r ∧ h1 f = some (.clo F) ∧ Q (.tup [.non, .str wd, .tup r]) (delh h1 f), rfl,
    runs_of seth_same (lamG0_of T hc) B pn (lamRho_of T hc) hN hg nv hρ hl (fun A outer s H E c' hG hr => hbody f A outer s H E c' _ takes_lam hG hr) (fun W => z W f nf) (fun x h' q no => ⟨h', rfl, no, q⟩) (fun C fs h' x no => ⟨h', rfl, no, x⟩), ?_, ?_⟩
  · rintro x h1 ⟨h2, rfl, no, q1, q2⟩
    exact ⟨h2, rfl, no, f, _, q1, (fun _ y => (nomatch y)), (fun y => (nomatch y)), q2⟩
  · rintro C fs h1 ⟨h2, rfl, no, wd, r, q0, q1, q2⟩
    exact ⟨wd, r, q0, h2, rfl, no, f, _, q1, (fun _ y => (nomatch y)), (fun y => (nomatch y)), q2⟩
end
theorem code_of_tab {K : PySem.W.Frag} {x : Str} {f c P : Addr} {oc : Value} {od : Option Addr} {fd : FuncData} {sl : Array (Option Value)} (a : PySem.W.nsIn K mainGlobals x = some (some (.ref f))) (l : K.lookup f = some ⟨oc, od, .func fd, sl⟩) (t : PySem.W.tabIn K x = some (c, P)) : fd.code = .ref c := by
  unfold PySem.W.tabIn at t
  rw [a] at t
  dsimp only at t
  rw [l] at t
  dsimp only at t
  split at t
  · rename_i c2 hc
    split at t
    · split at t
      · cases t
        exact hc
      · cases t
    · cases t
  · cases t
theorem pe_xpK {X : Cx} {K : PySem.W.Frag} {e : Expr} {te : TE} {n : Str} {pos : Pos} (hK : X.K = K) (he : PE X e te) (hb : attributeBase e n X.env (eval e X.env) = eval e X.env := by rfl) : PE X (.Attribute e n pos) (tXp K n te) := hK ▸ pe_xp he hb
theorem pe_xgK {X : Cx} {K : PySem.W.Frag} {e : Expr} {te : TE} {n : Str} {pos : Pos} {a : Addr} {oe : Obj} {cls : Value} {d : Option Addr} (hK : X.K = K) (hp : (a, oe) ∈ X.pn) (hz : Zc cls d oe) (hf : ∃ vs, oe.data = .fields vs) (he : PE X e te) (hb : attributeBase e n X.env (eval e X.env) = eval e X.env := by rfl) :
    PE X (.Attribute e n pos) (tXg K a cls d n te) := hK ▸ pe_xg hp hz hf he hb
theorem pe_askK {X : Cx} {P : Program} {w : World} {K : PySem.W.Frag} {mg : Str → Option Value} {base : Heap} {k i : Nat} {x : Str} {p1 p2 : Pos} {W : WX} (e1 : X.prog = P) (e2 : X.w = w) (e3 : X.K = K) (e4 : X.mg = mg) (e5 : X.base = base)
    (hN : X.N[i]? = some x) (hv : Vis X.env.scope x) (hG : X.A.guards = some []) (hr : Room k X.A) (tk : Takes X W) (hd : (x == ("__debug__" : Str)) = false := by decide) (hcd : (x == ("__classdict__" : Str)) = false := by decide) :
    PE X (.Call (.Name x p1) [] [] p2) (tAsk P w K mg base k i W) := by
  subst e1 e2 e3 e4 e5
  exact pe_ask hN hv hG hr tk hd hcd
end GX

set_option Elab.async false
set_option linter.all false
set_option maxRecDepth 100000
set_option maxHeartbeats 4000000
/-! ### the slots that a lambda reads -/
namespace GX
open PySem L2 PySem.Spec PyProof.Rows
theorem tab_mk {K : PySem.W.Frag} {x : Str} {f c P : Addr} {oc : Value} {od : Option Addr} {fd : FuncData} {sl : Array (Option Value)} {oc2 : Value} {od2 : Option Addr} {vs : Array Value} {sl2 : Array (Option Value)} (a : PySem.W.nsIn K mainGlobals x = some (some (.ref f))) (l : K.lookup f = some ⟨oc, od, .func fd, sl⟩)
    (hc : fd.code = .ref c) (lc : K.lookup c = some ⟨oc2, od2, .fields vs, sl2⟩) (hv : vs[11]? = some (.ref P)) : PySem.W.tabIn K x = some (c, P) := by
  unfold PySem.W.tabIn
  rw [a]
  dsimp only
  rw [l]
  dsimp only
  rw [hc]
  dsimp only
  rw [lc]
  dsimp only
  rw [hv]
def freeB (names : List (Str × NameKind)) (x : Str) : Bool := match names.lookup x with
  | some .free => true
  | _ => false
theorem freeB_eq {names : List (Str × NameKind)} {x : Str} (h : freeB names x = true) : names.lookup x = some .free := by
  unfold freeB at h
  split at h
  · assumption
  · cases h
def maskR (m : List Bool) (ρ : Rho) : Rho := List.zipWith (fun b x => if b = true then x else none) m ρ
theorem maskR_ok {m : List Bool} {ρ : Rho} {N : List Str} {names : List (Str × NameKind)} (hm : (List.zipWith (fun b x => !b || freeB names x) m N).all id = true) (hl : m.length = N.length) :
    ∀ (i : Nat) d, (maskR m ρ)[i]? = some (some d) → ρ[i]? = some (some d) ∧ ∃ x, N[i]? = some x ∧ names.lookup x = some .free := by
  intro i d e
  unfold maskR at e
  rw [List.getElem?_zipWith] at e
  cases em : m[i]? with
  | none => rw [em] at e; cases e
  | some b =>
    rw [em] at e
    cases er : ρ[i]? with
    | none => rw [er] at e; cases e
    | some x =>
      rw [er] at e
      cases b with
      | false => cases e
      | true =>
        cases e
        have hi := (List.getElem?_eq_some_iff.mp em).1
        have eN := List.getElem?_eq_getElem (show i < N.length by omega)
        refine ⟨rfl, _, eN, ?_⟩
        have z : (List.zipWith (fun b x => !b || freeB names x) m N)[i]? = some (!true || freeB names N[i]) := by
          rw [List.getElem?_zipWith, em, eN]
        have := List.all_eq_true.mp hm _ (List.mem_of_getElem? z)
        exact freeB_eq (by simpa using this)
end GX

set_option Elab.async false
set_option linter.all false
set_option maxRecDepth 100000
set_option maxHeartbeats 4000000
/-! ### trees -/
namespace GX
open PySem L2 PySem.Spec
inductive T where
  | node (c : Str) (ch : List T)
mutual
/-- as data -/
def tD : T → D
  | .node c ch => .tup (.str c :: tDs ch)
def tDs : List T → List D
  | [] => []
  | t :: ts => tD t :: tDs ts
end
mutual
/-- nodes -/
def tsz : T → Nat
  | .node _ ch => 1 + tszs ch
def tszs : List T → Nat
  | [] => 0
  | t :: ts => tsz t + tszs ts
end
mutual
def tdp : T → Nat
  | .node _ ch => 1 + tdps ch
def tdps : List T → Nat
  | [] => 0
  | t :: ts => max (tdp t) (tdps ts)
end
theorem tDs_map (l : List T) : tDs l = l.map tD := by
  induction l with
  | nil => rfl
  | cons t l ih => rw [tDs, ih]; rfl
theorem tszs_sum (l : List T) : tszs l = (l.map tsz).sum := by
  induction l with
  | nil => rfl
  | cons t l ih => rw [tszs, ih]; rfl
theorem tdps_le {l : List T} {t : T} (h : t ∈ l) : tdp t ≤ tdps l := by
  induction l with
  | nil => cases h
  | cons a l ih =>
    rw [tdps]
    rcases List.mem_cons.mp h with q | q
    · subst q; exact Nat.le_max_left ..
    · exact Nat.le_trans (ih q) (Nat.le_max_right ..)
theorem tD_node (c : Str) (ch : List T) : tD (.node c ch) = .tup (.str c :: ch.map tD) := by rw [tD, tDs_map]
/-- a tree of a kind -/
inductive Ty (ts : List Trip) : Str → T → Prop
  | node {t : Trip} {ch : List T} : t ∈ ts → ch.length = t.2.2.length → (∀ (i : Nat) (p : Str) (c : T), t.2.2[i]? = some p → ch[i]? = some c → Ty ts p c) → Ty ts t.2.1 (.node t.1 ch)
theorem Ty.inv {ts : List Trip} {k c : Str} {ch : List T} (h : Ty ts k (.node c ch)) : ∃ t ∈ ts, c = t.1 ∧ k = t.2.1 ∧ ch.length = t.2.2.length ∧ ∀ (i : Nat) (p : Str) (c : T), t.2.2[i]? = some p → ch[i]? = some c → Ty ts p c := by
  cases h with
  | node tm hl hc => exact ⟨_, tm, rfl, rfl, hl, hc⟩
theorem prsD_map {α β : Type} (f : α → D) (g : β → D) (xs : List α) (ys : List β) : prsD (xs.map f) (ys.map g) = (xs.zip ys).map fun p => .tup [f p.1, g p.2] := by
  unfold prsD
  rw [List.zip_map, List.map_map]
  rfl
/-- a kind with a small tree: a constructor of at most one part, that part small too -/
inductive Ez (ts : List Trip) : Nat → Str → Prop
  | mk {n : Nat} {t : Trip} : t ∈ ts → t.2.2.length ≤ 1 → (∀ p ∈ t.2.2, Ez ts n p) → Ez ts (n + 1) t.2.1
theorem Ez.up {ts : List Trip} {n : Nat} {k : Str} (h : Ez ts n k) : ∀ m, n ≤ m → Ez ts m k := by
  induction h with
  | mk tm hl _ ih =>
    intro m hm
    cases m with
    | zero => omega
    | succ m => exact .mk tm hl fun p hp => ih p hp m (by omega)
theorem Ez.perm {ts us : List Trip} (s : ∀ t ∈ ts, t ∈ us) {n : Nat} {k : Str} (h : Ez ts n k) : Ez us n k := by
  induction h with
  | mk tm hl _ ih => exact .mk (s _ tm) hl ih
/-- .. as they are drawn -/
theorem ez_drawn {ts : List Trip} {kinds : List Str} (tk : ts.map (·.2.1) = kinds) (low : ∀ (j : Nat) (t : Trip), ts[j]? = some t → (∀ p ∈ t.2.2, p ∈ kinds.take j) ∧ t.2.2.length ≤ 1) : ∀ (j : Nat) (k : Str), kinds[j]? = some k → Ez ts (j + 1) k := by
  intro j
  induction j using Nat.strongRecOn with
  | ind j ih =>
    intro k e
    rw [← tk, List.getElem?_map] at e
    cases et : ts[j]? with
    | none => rw [et] at e; cases e
    | some t =>
      rw [et] at e
      cases e
      obtain ⟨h1, h2⟩ := low j t et
      refine .mk (List.mem_of_getElem? et) h2 fun p hp => ?_
      obtain ⟨i, hi⟩ := List.getElem?_of_mem (h1 p hp)
      rw [List.getElem?_take] at hi
      split at hi
      · rename_i hij
        exact (ih i hij p hi).up j (by omega)
      · cases hi
end GX

set_option Elab.async false
set_option linter.all false
set_option maxRecDepth 100000
set_option maxHeartbeats 4000000
/-! ### the keys of trees, their order -/
namespace GX
open PySem L2 PySem.Spec PyProof.Rows PySem.W
def kindOfC (ts : List Trip) (c : Str) : Str := ((ts.find? fun t => decide (t.1 = c)).map (·.2.1)).getD ""
/-- the place of a constructor among those of its kind -/
def rkT (ts : List Trip) (c : Str) : Nat := (consOf ts (kindOfC ts c)).idxOf c
theorem kindOfC_at {ts : List Trip} (nd : (ts.map (·.1)).Nodup) {t : Trip} (ht : t ∈ ts) : kindOfC ts t.1 = t.2.1 := by
  unfold kindOfC
  have : ts.find? (fun u => decide (u.1 = t.1)) = some t := by
    induction ts with
    | nil => cases ht
    | cons a ts ih =>
      rw [List.map_cons, List.nodup_cons] at nd
      rw [List.find?_cons]
      rcases List.mem_cons.mp ht with q | q
      · subst q
        rw [decide_eq_true rfl]
      · have : a.1 ≠ t.1 := fun e => nd.1 (e ▸ List.mem_map_of_mem q)
        rw [decide_eq_false this]
        exact ih nd.2 q
  rw [this]
  rfl
mutual
/-- as data -/
def kyD (ts : List Trip) : T → D
  | .node c ch => .tup [.int ((1 + tszs ch : Nat) : Int), .int ((rkT ts c : Nat) : Int), .lst (kyDs ts ch)]
def kyDs (ts : List Trip) : List T → List D
  | [] => []
  | t :: l => kyD ts t :: kyDs ts l
end
theorem kyDs_map (ts : List Trip) (l : List T) : kyDs ts l = l.map (kyD ts) := by
  induction l with
  | nil => rfl
  | cons t l ih => rw [kyDs, ih]; rfl
theorem kyD_node (ts : List Trip) (c : Str) (ch : List T) : kyD ts (.node c ch) = .tup [natD (1 + tszs ch), natD (rkT ts c), .lst (ch.map (kyD ts))] := by rw [kyD, kyDs_map]
abbrev kyP (ts : List Trip) (t : T) : PyData := toP (kyD ts t)
theorem kyP_node (ts : List Trip) (c : Str) (ch : List T) : kyP ts (.node c ch) = .tuple [.int ((1 + tszs ch : Nat) : Int), .int ((rkT ts c : Nat) : Int), .list (ch.map (kyP ts))] := by
  show toP (kyD ts (.node c ch)) = _
  rw [kyD_node]
  simp only [toP, toPs, toPs_map, List.map_map]
  rfl
mutual
theorem kyP_alike (ts : List Trip) : ∀ a b : T, alike (kyP ts a) (kyP ts b) = true
  | .node c ch, .node d dh => by
    rw [kyP_node, kyP_node]
    simp only [alike, alikeAll, Bool.and_true, Bool.true_and]
    exact kyPs_alike ts ch dh
theorem kyPs_alike (ts : List Trip) : ∀ a b : List T, alikeAll (a.map (kyP ts)) (b.map (kyP ts)) = true
  | [], _ => by rw [List.map_nil, alikeAll]
  | _ :: _, [] => by rw [List.map_nil, List.map_cons, alikeAll]
  | a :: as, b :: bs => by
    rw [List.map_cons, List.map_cons, alikeAll, kyP_alike ts a b, kyPs_alike ts as bs]
    rfl
end
/-- before -/
def ltT (ts : List Trip) (a b : T) : Bool := dataLt (kyP ts a) (kyP ts b)
theorem ltT_irrefl (ts : List Trip) (a : T) : ltT ts a a = false := lex_irrefl _
theorem ltT_trans {ts : List Trip} {a b c : T} (h : ltT ts a b = true) (k : ltT ts b c = true) : ltT ts a c = true := lex_trans _ _ _ h k
theorem ltT_neg {ts : List Trip} {a b c : T} (h : ltT ts a b = false) (k : ltT ts b c = false) : ltT ts a c = false := by
  cases e : ltT ts a c with
  | false => rfl
  | true =>
    rcases lex_negTrans _ (keyToks (kyP ts b)) _ e with q | q
    · rw [show ltT ts a b = true from q] at h; cases h
    · rw [show ltT ts b c = true from q] at k; cases k
/-- what compare answers -/
def wayT (ts : List Trip) (a b : T) : Int := (if ltT ts b a = true then 1 else 0) - (if ltT ts a b = true then 1 else 0)
theorem wayT_anti (ts : List Trip) (a b : T) : wayT ts b a = 0 - wayT ts a b := by unfold wayT; omega
/-- data equal: their tokens are, and back -/
theorem eqv_of_toks {x y : PyData} (al : alike x y = true) (e : keyToks x = keyToks y) : PyData.eqv x y = true := by
  cases h : PyData.eqv x y with
  | true => rfl
  | false =>
    have q := (toks_eqv x y al).2 h
    rw [e] at q
    have h1 := q [] [.inl 0]
    have h2 := q [.inl 0] []
    rw [lex_pre] at h1 h2
    rw [← h2] at h1
    have a1 : PyProof.Rows.lexLt itemOrd [] [(.inl 0 : Int ⊕ List Nat)] = true := rfl
    have a2 : PyProof.Rows.lexLt itemOrd [(.inl 0 : Int ⊕ List Nat)] [] = false := rfl
    rw [a1, a2] at h1
    cases h1
end GX

set_option Elab.async false
set_option linter.all false
set_option maxRecDepth 100000
set_option maxHeartbeats 4000000
/-! ### the order of trees: what it keeps -/
namespace GX
open PySem L2 PySem.Spec PyProof.Rows PySem.W
theorem mem_consOf {ts : List Trip} {t : Trip} (ht : t ∈ ts) : t.1 ∈ consOf ts t.2.1 := List.mem_map.mpr ⟨t, List.mem_filter.mpr ⟨ht, decide_eq_true rfl⟩, rfl⟩
theorem idx_inj {l : List Str} {a b : Str} (ha : a ∈ l) (hb : b ∈ l) (e : l.idxOf a = l.idxOf b) : a = b := by
  have h1 := List.idxOf_lt_length_iff.mpr ha
  have h2 := List.idxOf_lt_length_iff.mpr hb
  have e1 : l[l.idxOf a] = a := List.getElem_idxOf h1
  have e2 : l[l.idxOf b] = b := List.getElem_idxOf h2
  rw [← e1, ← e2]
  congr 1
theorem nd_trip {ts : List Trip} (nd : (ts.map (·.1)).Nodup) {t u : Trip} (ht : t ∈ ts) (hu : u ∈ ts) (e : t.1 = u.1) : t = u := by
  induction ts with
  | nil => cases ht
  | cons a ts ih =>
    rw [List.map_cons, List.nodup_cons] at nd
    rcases List.mem_cons.mp ht with q | q <;> rcases List.mem_cons.mp hu with z | z
    · rw [q, z]
    · subst q; exact absurd (e ▸ List.mem_map_of_mem z) nd.1
    · subst z; exact absurd (e ▸ List.mem_map_of_mem q) nd.1
    · exact ih nd.2 q z
theorem eqv_node {ts : List Trip} {c d : Str} {ch dh : List T} (e : PyData.eqv (kyP ts (.node c ch)) (kyP ts (.node d dh)) = true) :
    tszs ch = tszs dh ∧ rkT ts c = rkT ts d ∧ PyData.eqvAll (ch.map (kyP ts)) (dh.map (kyP ts)) = true := by
  rw [kyP_node, kyP_node] at e
  simp only [PyData.eqv, PyData.eqvAll, Bool.and_true, Bool.and_eq_true, beq_iff_eq] at e
  exact ⟨by omega, by omega, e.2.2⟩
mutual
/-- one key, one kind: one tree -/
theorem key_inj {ts : List Trip} (nd : (ts.map (·.1)).Nodup) : ∀ {k : Str} (a b : T), Ty ts k a → Ty ts k b → PyData.eqv (kyP ts a) (kyP ts b) = true → a = b
  | k, .node c ch, .node d dh, ha, hb, e => by
    obtain ⟨e1, e2, e3⟩ := eqv_node e
    obtain ⟨t, tm, rfl, rfl, hl, hc⟩ := ha.inv
    obtain ⟨u, um, rfl, ek, hl2, hc2⟩ := hb.inv
    have : t.1 = u.1 := by
      unfold rkT at e2
      rw [kindOfC_at nd tm, kindOfC_at nd um, ← ek] at e2
      exact idx_inj (mem_consOf tm) (ek ▸ mem_consOf um) e2
    have tu := nd_trip nd tm um this
    subst tu
    rw [keys_inj nd t.2.2 ch dh hl hl2 hc hc2 e3]
theorem keys_inj {ts : List Trip} (nd : (ts.map (·.1)).Nodup) : ∀ (ps : List Str) (as bs : List T), as.length = ps.length → bs.length = ps.length →
    (∀ (i : Nat) (p : Str) (c : T), ps[i]? = some p → as[i]? = some c → Ty ts p c) → (∀ (i : Nat) (p : Str) (c : T), ps[i]? = some p → bs[i]? = some c → Ty ts p c) → PyData.eqvAll (as.map (kyP ts)) (bs.map (kyP ts)) = true → as = bs
  | _, [], [], _, _, _, _, _ => rfl
  | _, [], b :: bs, _, _, _, _, e => by rw [List.map_nil, List.map_cons, PyData.eqvAll] at e; cases e
  | _, a :: as, [], _, _, _, _, e => by rw [List.map_nil, List.map_cons, PyData.eqvAll] at e; cases e
  | [], a :: as, b :: bs, hl, _, _, _, _ => by cases hl
  | p :: ps, a :: as, b :: bs, hl, hl2, h1, h2, e => by
    rw [List.map_cons, List.map_cons, PyData.eqvAll, Bool.and_eq_true] at e
    rw [key_inj nd a b (h1 0 p a rfl rfl) (h2 0 p b rfl rfl) e.1, keys_inj nd ps as bs (by simpa using hl) (by simpa using hl2) (fun i q c x y => h1 (i + 1) q c x y) (fun i q c x y => h2 (i + 1) q c x y) e.2]
end
/-- 0 just for equal trees -/
theorem wayT_zero {ts : List Trip} (nd : (ts.map (·.1)).Nodup) {k : Str} {a b : T} (ha : Ty ts k a) (hb : Ty ts k b) : wayT ts a b = 0 ↔ a = b := by
  constructor
  · intro h
    unfold wayT at h
    have : ltT ts a b = false ∧ ltT ts b a = false := by
      cases h1 : ltT ts a b with
      | false =>
        refine ⟨rfl, ?_⟩
        cases h2 : ltT ts b a with
        | false => rfl
        | true => rw [h1, h2] at h; simp at h
      | true =>
        cases h2 : ltT ts b a with
        | false => rw [h1, h2] at h; simp at h
        | true =>
          have := ltT_trans h1 h2
          rw [ltT_irrefl] at this
          cases this
    exact key_inj nd a b ha hb (eqv_of_toks (kyP_alike ts a b) (lex_total _ _ this.1 this.2))
  · intro h
    subst h
    unfold wayT
    rw [ltT_irrefl]
    rfl
theorem tsz_node (c : Str) (ch : List T) : tsz (.node c ch) = 1 + tszs ch := by rw [tsz]
/-- by size first -/
theorem ltT_size {ts : List Trip} {a b : T} (h : tsz a < tsz b) : ltT ts a b = true ∧ ltT ts b a = false := by
  cases a with
  | node c ch =>
    cases b with
    | node d dh =>
      rw [tsz_node, tsz_node] at h
      have one : ltT ts (.node c ch) (.node d dh) = true := by
        unfold ltT
        rw [kyP_node, kyP_node, dataLt_tuple, dataLt_all_no (by simp [alike]) (by simp [PyData.eqv]; omega), dataLt_int]
        exact decide_eq_true (by omega)
      refine ⟨one, ?_⟩
      cases e : ltT ts (.node d dh) (.node c ch) with
      | false => rfl
      | true =>
        have := ltT_trans one e
        rw [ltT_irrefl] at this
        cases this
theorem wayT_size {ts : List Trip} {a b : T} (h : tsz a < tsz b) : wayT ts a b = -1 := by
  obtain ⟨h1, h2⟩ := ltT_size (ts := ts) h
  unfold wayT
  rw [h1, h2]
  rfl
/-- children with one front and one back -/
theorem keys_mid {ts : List Trip} {a b : T} (hne : PyData.eqv (kyP ts a) (kyP ts b) = false) (back back' : List T) : ∀ pre : List T,
    PyProof.Rows.lexLt itemOrd (keyToksAll ((pre ++ a :: back).map (kyP ts))) (keyToksAll ((pre ++ b :: back').map (kyP ts))) = ltT ts a b
  | [] => by
    rw [List.nil_append, List.nil_append, List.map_cons, List.map_cons, dataLt_all_no (kyP_alike ts a b) hne]
    rfl
  | c :: pre => by
    rw [List.cons_append, List.cons_append, List.map_cons, List.map_cons, dataLt_all_yes (kyP_alike ts c c) ((toks_refl c))]
    exact keys_mid hne back back' pre
where
  toks_refl (c : T) : PyData.eqv (kyP ts c) (kyP ts c) = true := eqv_of_toks (kyP_alike ts c c) rfl
theorem tsz_pos (t : T) : 0 < tsz t := by cases t; rw [tsz]; omega
theorem tsz_mem {l : List T} {t : T} (h : t ∈ l) : tsz t ≤ tszs l := by
  induction l with
  | nil => cases h
  | cons a l ih =>
    rw [tszs]
    rcases List.mem_cons.mp h with q | q
    · subst q; omega
    · have := ih q; omega
theorem len_tszs (l : List T) : l.length ≤ tszs l := by
  induction l with
  | nil => exact Nat.le_refl _
  | cons a l ih =>
    have := tsz_pos a
    rw [tszs, List.length_cons]
    omega
/-- keys can be shown, compared -/
theorem kyD_ok (ts : List Trip) : ∀ (d : Nat) (t : T), tdp t ≤ d → okP (kyD ts t) = true ∧ (kyP ts t).depth ≤ 2 * d
  | 0, t, h => by cases t; rw [tdp] at h; omega
  | d + 1, .node c ch, h => by
    rw [tdp] at h
    have hc : ∀ u ∈ ch, okP (kyD ts u) = true ∧ (kyP ts u).depth ≤ 2 * d := fun u hu => kyD_ok ts d u (by have := tdps_le hu; omega)
    constructor
    · rw [kyD_node]
      simp only [okP, okPs, Bool.and_true, Bool.true_and, okPs_all, List.all_map]
      exact List.all_eq_true.mpr fun u hu => (hc u hu).1
    · rw [kyP_node]
      have : PyData.depthAll (ch.map (kyP ts)) ≤ 2 * d := by
        clear h
        induction ch with
        | nil => rw [List.map_nil, PyData.depthAll]; exact Nat.zero_le _
        | cons a ch ih =>
          rw [List.map_cons, PyData.depthAll]
          exact Nat.max_le.mpr ⟨(hc a (List.mem_cons_self ..)).2, ih fun u hu => hc u (List.mem_cons_of_mem _ hu)⟩
      simp only [PyData.depth, PyData.depthAll]
      omega
theorem kyP_some (ts : List Trip) (t : T) : toP (kyD ts t) ≠ .none := by
  cases t with
  | node c ch => rw [show toP (kyD ts (.node c ch)) = _ from kyP_node ts c ch]; exact fun h => nomatch h
end GX

set_option Elab.async false
set_option linter.all false
set_option maxRecDepth 100000
set_option maxHeartbeats 4000000
/-! ### small trees found -/
namespace GX
open PySem L2 PySem.Spec
def ltK (l : List (Str × T)) : List (Key × D) := l.map fun p => (Sum.inr p.1, tD p.2)
theorem ltK_in (l : List (Str × T)) (k : Str) : (dval (ltK l) (Sum.inr k)).isSome = decide (k ∈ l.map (·.1)) := by
  rw [dval_keys]
  refine decide_eq_decide.mpr ?_
  unfold ltK
  rw [List.map_map]
  constructor
  · intro h
    obtain ⟨p, hp, e⟩ := List.mem_map.mp h
    exact List.mem_map.mpr ⟨p, hp, Sum.inr.inj e⟩
  · intro h
    obtain ⟨p, hp, e⟩ := List.mem_map.mp h
    exact List.mem_map.mpr ⟨p, hp, by rw [← e]; rfl⟩
theorem ltK_at {l : List (Str × T)} (nd : (l.map (·.1)).Nodup) {k : Str} (h : k ∈ l.map (·.1)) : ∃ u, (k, u) ∈ l ∧ dval (ltK l) (Sum.inr k) = some (tD u) := by
  obtain ⟨p, hp, rfl⟩ := List.mem_map.mp h
  refine ⟨p.2, hp, ?_⟩
  have nd2 : (l.map fun p : Str × T => (Sum.inr p.1 : Key)).Nodup := by
    have := inr_nodup nd
    rwa [List.map_map] at this
  exact dval_at (fun p : Str × T => (Sum.inr p.1 : Key)) (fun p => tD p.2) l p hp nd2
theorem ltK_put {l : List (Str × T)} {k : Str} (u : T) (h : k ∉ l.map (·.1)) : dput (ltK l) (Sum.inr k) (tD u) = ltK (l ++ [(k, u)]) := by
  have e : dval (ltK l) (Sum.inr k) = none := by
    have := ltK_in l k
    rw [decide_eq_false h] at this
    exact Option.not_isSome_iff_eq_none.mp (by rw [this]; exact Bool.false_ne_true)
  rw [dput_new _ e]
  unfold ltK
  rw [List.map_append]
  rfl
structure SmallL (ts : List Trip) (l : List (Str × T)) : Prop where
  nd : (l.map (·.1)).Nodup
  all : ∀ p ∈ l, p.1 ∈ kindsOf ts ∧ Ty ts p.1 p.2 ∧ tsz p.2 ≤ l.length
theorem SmallL.nil {ts : List Trip} : SmallL ts [] := ⟨List.nodup_nil, fun p h => nomatch h⟩
theorem SmallL.few {ts : List Trip} {l : List (Str × T)} (s : SmallL ts l) : l.length ≤ (kindsOf ts).length := by
  have := s.nd.length_le_of_subset (l₂ := kindsOf ts) fun k hk => by
    obtain ⟨p, hp, rfl⟩ := List.mem_map.mp hk
    exact (s.all p hp).1
  rwa [List.length_map] at this
theorem SmallL.add {ts : List Trip} {l : List (Str × T)} (s : SmallL ts l) {t : Trip} (tm : t ∈ ts) (n : t.2.1 ∉ l.map (·.1)) {us : List T} (hl : us.length = t.2.2.length) (h1 : t.2.2.length ≤ 1)
    (hu : ∀ (i : Nat) (p : Str) (u : T), t.2.2[i]? = some p → us[i]? = some u → (p, u) ∈ l) : SmallL ts (l ++ [(t.2.1, .node t.1 us)]) := by
  refine ⟨?_, fun p hp => ?_⟩
  · rw [List.map_append]
    refine List.nodup_append.mpr ⟨s.nd, by simp, fun a ha b hb e => ?_⟩
    have : b = t.2.1 := by simpa using hb
    subst this
    exact n (e ▸ ha)
  · rw [List.length_append]
    rcases List.mem_append.mp hp with q | q
    · obtain ⟨a, b, c⟩ := s.all p q
      exact ⟨a, b, by show _ ≤ l.length + 1; omega⟩
    · rw [List.mem_singleton.mp q]
      refine ⟨(mem_kindsOf _ _).mpr ⟨t, tm, rfl⟩, .node tm hl fun i p c e1 e2 => (s.all _ (hu i p c e1 e2)).2.1, ?_⟩
      show tsz (.node t.1 us) ≤ l.length + 1
      rw [tsz_node]
      cases us with
      | nil => rw [tszs]; omega
      | cons u us =>
        cases us with
        | nil =>
          obtain ⟨p, ep⟩ : ∃ p, t.2.2[0]? = some p := ⟨_, List.getElem?_eq_getElem (by rw [← hl]; exact Nat.zero_lt_succ _)⟩
          have := (s.all _ (hu 0 p u ep rfl)).2.2
          rw [tszs, tszs]
          have e2 : tsz u ≤ l.length := this
          omega
        | cons v us =>
          rw [List.length_cons, List.length_cons] at hl
          omega
mutual
theorem tdp_le_tsz : ∀ t : T, tdp t ≤ tsz t
  | .node c ch => by
    have := tdps_le_tszs ch
    rw [tdp, tsz]
    omega
theorem tdps_le_tszs : ∀ l : List T, tdps l ≤ tszs l
  | [] => by rw [tdps, tszs]; exact Nat.le_refl _
  | t :: l => by
    have := tdp_le_tsz t
    have := tdps_le_tszs l
    rw [tdps, tszs]
    exact Nat.max_le.mpr ⟨by omega, by omega⟩
end
theorem tdps_max {l : List T} {n : Nat} (h : ∀ t ∈ l, tdp t ≤ n) : tdps l ≤ n := by
  induction l with
  | nil => rw [tdps]; exact Nat.zero_le _
  | cons a l ih =>
    rw [tdps]
    exact Nat.max_le.mpr ⟨h a (List.mem_cons_self ..), ih fun t ht => h t (List.mem_cons_of_mem _ ht)⟩
theorem tszs_max {l : List T} {n : Nat} (h : ∀ t ∈ l, tsz t ≤ n) : tszs l ≤ l.length * n := by
  induction l with
  | nil => rw [tszs]; exact Nat.zero_le _
  | cons a l ih =>
    have h1 := h a (List.mem_cons_self ..)
    have h2 := ih fun t ht => h t (List.mem_cons_of_mem _ ht)
    rw [tszs, List.length_cons, Nat.add_mul]
    omega
/-- nodes of a drawn tree of so great a depth -/
def mxT : Nat → Nat
  | 0 => 4
  | d + 1 => 1 + 3 * mxT d
end GX

set_option Elab.async false
set_option linter.all false
set_option maxRecDepth 100000
set_option maxHeartbeats 4000000
/-! ### isinstance of plain data, both answers -/
namespace GX
open PySem L2 PySem.Spec PyProof.Rows
def tyD : D → Option String
  | .non => some "NoneType"
  | .bl _ => some "bool"
  | .int _ => some "int"
  | .str _ => some "str"
  | .lst _ => some "list"
  | .tup _ => some "tuple"
  | _ => none
section
variable {h : Hs} {Q : QD} {K : PySem.W.Frag} {x : D}
theorem kit_no {n m : String} (hm : PySem.W.kitMeta m = true) (hne : (Value.type n == Value.type m) = false) (hs : PySem.W.subIn K (.type n) (.type m) = some false) : PySem.W.kitOne K (.type n) (.type m) = some false := by
  unfold PySem.W.kitOne PySem.W.kitCls
  rw [hne]
  dsimp only
  rw [hm, hs]
  rfl
theorem v_isiG {n m : String} {b : Bool} (t : tyD x = some n) (k : PySem.W.kitOne K (.type n) (.type m) = some b) (q : Q (.bl b) h) : dRA (rIsi K) [x, .ty m] h Q := fun vs H Q' r dx p => by
  cases dx with
  | cons d1 d2 =>
    cases d2 with
    | cons d2 d3 =>
      cases d3
      cases d2
      have ty : ∀ {v : V}, Dx (Fz h H) v x → L2.TyX K H v (.type n) := by
        intro v d
        cases d <;> first | (cases t; done) | skip
        case non => cases t; exact .base .non
        case bl => cases t; exact .base (.bl _)
        case int => cases t; exact .base (.int _)
        case str => cases t; exact .base (.str _)
        case lst e0 a => cases t; exact .base (.lst (fz_some e0).2)
        case tup e0 a => cases t; exact .base (.tup (fz_some e0).2)
      exact ⟨_, _, _, _, b, rfl, .ty _, ty d1, k, post_id p r (.bl b) q⟩
def isT : D → Bool
  | .tup _ => true
  | _ => false
def isS : D → Bool
  | .str _ => true
  | _ => false
/-- isinstance(x, tuple) -/
theorem v_isT (hp : (tyD x).isSome = true) (q : Q (.bl (isT x)) h) : dRA (rIsi K) [x, .ty "tuple"] h Q := by
  cases x <;> first | (cases hp; done) | skip
  case tup => exact v_isiT q
  all_goals exact v_isiG rfl (kit_no (by rfl) (by rfl) (by rfl)) q
/-- isinstance(x, str) -/
theorem v_isS (hp : (tyD x).isSome = true) (q : Q (.bl (isS x)) h) : dRA (rIsi K) [x, .ty "str"] h Q := by
  cases x <;> first | (cases hp; done) | skip
  case str => exact v_isiS q
  all_goals exact v_isiG rfl (kit_no (by rfl) (by rfl) (by rfl)) q
end
/-! ### the kind of a tree that may be none -/
/-- the kind of a tree, so deep at most -/
def gk (ts : List Trip) : Nat → D → Option Str
  | 0, _ => none
  | d + 1, x => match x with
    | .tup (.str c :: ch) => match ts.find? fun t => decide (t.1 = c) with
      | none => none
      | some t => if ch.map (gk ts d) = t.2.2.map some then some t.2.1 else none
    | _ => none
section
variable {ts : List Trip}
theorem find_trip : ∀ {ts : List Trip}, (ts.map (·.1)).Nodup → ∀ {t : Trip}, t ∈ ts → (ts.find? fun u => decide (u.1 = t.1)) = some t
  | [], _, t, h => by cases h
  | u :: ts, nd, t, h => by
    rw [List.map_cons, List.nodup_cons] at nd
    rcases List.mem_cons.mp h with rfl | h
    · rw [List.find?_cons_of_pos (by simp)]
    · rw [List.find?_cons_of_neg, find_trip nd.2 h]
      simp only [decide_eq_true_eq]
      intro e
      exact nd.1 (e ▸ List.mem_map_of_mem h)
theorem gk_at (nd : (ts.map (·.1)).Nodup) {t : Trip} (tm : t ∈ ts) {d : Nat} {ch : List D} : gk ts (d + 1) (.tup (.str t.1 :: ch)) = if ch.map (gk ts d) = t.2.2.map some then some t.2.1 else none := by
  show (match ts.find? fun u => decide (u.1 = t.1) with | none => none | some t => if ch.map (gk ts d) = t.2.2.map some then some t.2.1 else none) = _
  rw [find_trip nd tm]
theorem gk_unknown {c : Str} (h : c ∉ ts.map (·.1)) {d : Nat} {ch : List D} : gk ts (d + 1) (.tup (.str c :: ch)) = none := by
  show (match ts.find? fun u => decide (u.1 = c) with | none => none | some t => if ch.map (gk ts d) = t.2.2.map some then some t.2.1 else none) = _
  have : (ts.find? fun u => decide (u.1 = c)) = none := by
    rw [List.find?_eq_none]
    intro u hu
    simp only [decide_eq_true_eq]
    intro e
    exact h (e ▸ List.mem_map_of_mem hu)
  rw [this]
theorem gk_head {d : Nat} {y : D} {ch : List D} (h : isS y = false) : gk ts (d + 1) (.tup (y :: ch)) = none := by
  cases y <;> first | (cases h; done) | rfl
theorem gk_leaf {d : Nat} {x : D} (h : isT x = false) : gk ts d x = none := by
  cases d with
  | zero => rfl
  | succ d => cases x <;> first | (cases h; done) | rfl
/-- a tree of the kind -/
theorem gk_ty (nd : (ts.map (·.1)).Nodup) : ∀ (d : Nat) (x : D) (k : Str), gk ts d x = some k → ∃ t, x = tD t ∧ Ty ts k t ∧ tdp t ≤ d := by
  intro d
  induction d with
  | zero => intro x k h; cases h
  | succ d ih =>
    intro x k h
    have hT : isT x = true := by
      cases e : isT x with
      | true => rfl
      | false => rw [gk_leaf e] at h; cases h
    cases x <;> first | (cases hT; done) | skip
    rename_i ds
    cases ds with
    | nil => cases h
    | cons y ch =>
      have hS : isS y = true := by
        cases e : isS y with
        | true => rfl
        | false => rw [gk_head e] at h; cases h
      cases y <;> first | (cases hS; done) | skip
      rename_i c
      by_cases hc : c ∈ ts.map (·.1)
      · obtain ⟨t, tm, rfl⟩ := List.mem_map.mp hc
        rw [gk_at nd tm] at h
        split at h
        · rename_i e
          cases h
          have hl : ch.length = t.2.2.length := by
            have := congrArg List.length e
            rwa [List.length_map, List.length_map] at this
          obtain ⟨us, ul, hu⟩ := ex_list ch.length (fun i (u : T) => ∃ y p, ch[i]? = some y ∧ t.2.2[i]? = some p ∧ y = tD u ∧ Ty ts p u ∧ tdp u ≤ d) (fun i hi => by
            have ey := List.getElem?_eq_getElem hi
            have ep := List.getElem?_eq_getElem (show i < t.2.2.length by omega)
            have e1 := congrArg (fun l => l[i]?) e
            rw [List.getElem?_map, List.getElem?_map, ey, ep] at e1
            obtain ⟨u, q1, q2, q3⟩ := ih _ _ (Option.some.inj e1)
            exact ⟨u, _, _, ey, ep, q1, q2, q3⟩)
          have ech : ch = us.map tD := by
            refine List.ext_getElem? fun i => ?_
            rw [List.getElem?_map]
            cases eu : us[i]? with
            | none =>
              have := List.getElem?_eq_none_iff.mp eu
              rw [List.getElem?_eq_none_iff.mpr (by omega)]
              rfl
            | some u =>
              obtain ⟨y, p, q1, _, rfl, _⟩ := hu i u eu
              exact q1
          refine ⟨.node t.1 us, by rw [tD_node, ← ech], .node tm (by rw [ul, hl]) fun i p c e1 e2 => ?_, ?_⟩
          · obtain ⟨y, p2, _, q2, _, q3, _⟩ := hu i c e2
            rw [e1] at q2
            cases q2
            exact q3
          · rw [tdp]
            have := tdps_max (l := us) (n := d) fun u hm => by
              obtain ⟨i, hi⟩ := List.getElem?_of_mem hm
              obtain ⟨_, _, _, _, _, _, q⟩ := hu i u hi
              exact q
            omega
        · cases h
      · rw [gk_unknown hc] at h
        cases h
theorem tdp_pos0 (t : T) : 0 < tdp t := by
  cases t
  rw [tdp]
  omega
theorem ty_gk (nd : (ts.map (·.1)).Nodup) : ∀ (d : Nat) (t : T) (k : Str), Ty ts k t → tdp t ≤ d → gk ts d (tD t) = some k := by
  intro d
  induction d with
  | zero => intro t k _ h; exact absurd h (Nat.not_le.mpr (tdp_pos0 t))
  | succ d ih =>
    intro t k ty h
    obtain ⟨c, ch⟩ := t
    obtain ⟨t, tm, rfl, rfl, hl, hc⟩ := ty.inv
    rw [tD_node, gk_at nd tm, if_pos]
    refine List.ext_getElem? fun i => ?_
    rw [List.getElem?_map, List.getElem?_map, List.getElem?_map]
    rw [tdp] at h
    cases ec : ch[i]? with
    | none =>
      have := List.getElem?_eq_none_iff.mp ec
      rw [List.getElem?_eq_none_iff.mpr (show t.2.2.length ≤ i by omega)]
      rfl
    | some c =>
      have hi := (List.getElem?_eq_some_iff.mp ec).1
      have ep := List.getElem?_eq_getElem (show i < t.2.2.length by omega)
      rw [ep]
      have := tdps_le (List.mem_of_getElem? ec)
      show some (gk ts d (tD c)) = some (some _)
      rw [ih c _ (hc i _ c ep ec) (by omega)]
end
theorem gk_all {ts : List Trip} {d : Nat} {ch : List D} {ps : List Str} (hl : ps.length = ch.length) (h : ∀ (i : Nat) p c, ps[i]? = some p → ch[i]? = some c → gk ts d c = some p) : ch.map (gk ts d) = ps.map some := by
  refine List.ext_getElem? fun i => ?_
  rw [List.getElem?_map, List.getElem?_map]
  cases ec : ch[i]? with
  | none =>
    have := List.getElem?_eq_none_iff.mp ec
    rw [List.getElem?_eq_none_iff.mpr (show ps.length ≤ i by omega)]
    rfl
  | some c =>
    have hi := (List.getElem?_eq_some_iff.mp ec).1
    have ep := List.getElem?_eq_getElem (show i < ps.length by omega)
    rw [ep]
    show some (gk ts d c) = some (some _)
    rw [h i _ c ep ec]
theorem gk_not {ts : List Trip} {d : Nat} {ch : List D} {ps : List Str} {i : Nat} {p : Str} {c : D} (ep : ps[i]? = some p) (ec : ch[i]? = some c) (n : gk ts d c ≠ some p) : ch.map (gk ts d) ≠ ps.map some := by
  intro e
  have e1 : (ch.map (gk ts d))[i]? = (ps.map some)[i]? := by rw [e]
  rw [List.getElem?_map, List.getElem?_map, ep, ec] at e1
  exact n (Option.some.inj e1)
theorem gk_len {ts : List Trip} {d : Nat} {ch : List D} {ps : List Str} (h : ch.length ≠ ps.length) : ch.map (gk ts d) ≠ ps.map some := by
  intro e
  have := congrArg List.length e
  rw [List.length_map, List.length_map] at this
  exact h this
/-- a def that is never called so -/
theorem FnG.never {P : Program} {w : World} {K : PySem.W.Frag} {mg : Str → Option Value} {base : Heap} {k : Nat} {f : Addr} {fd : FuncData} {ps : List Str} : FnG P w K mg base (L2.CX P w) k f fd ps (spDX fun _ _ _ _ => False) := by
  refine ⟨fun vs H Q E z => ?_, fun A outer s H args us vs Q E g hr e0 b r z => ?_⟩
  · obtain ⟨_, _, _, _, _, _, z, _⟩ := z
    exact z.elim
  · obtain ⟨_, _, _, _, _, _, z, _⟩ := z
    exact z.elim
theorem FnG.neverD {P : Program} {w : World} {K : PySem.W.Frag} {mg : Str → Option Value} {base : Heap} {k : Nat} {f : Addr} {fd : FuncData} {ps : List Str} : FnG P w K mg base CX0 k f fd ps (spD fun _ _ _ => False) := by
  refine ⟨fun vs H Q E z => ?_, fun A outer s H args us vs Q E g hr e0 b r z => ?_⟩
  · obtain ⟨_, _, _, _, _, z, _⟩ := z
    exact z.elim
  · obtain ⟨_, _, _, _, _, z, _⟩ := z
    exact z.elim
theorem eqv_lstS : ∀ as bs : List Str, PyData.eqv (toP (.lst (strsD as))) (toP (.lst (strsD bs))) = decide (as = bs) := by
  intro as
  induction as with
  | nil =>
    intro bs
    cases bs with
    | nil => rfl
    | cons b bs => simp [strsD, toP, toPs, PyData.eqv, PyData.eqvAll]
  | cons a as ih =>
    intro bs
    cases bs with
    | nil => simp [strsD, toP, toPs, PyData.eqv, PyData.eqvAll]
    | cons b bs =>
      have e := ih bs
      simp only [strsD, toP, PyData.eqv] at e
      simp only [strsD, List.map_cons, toP, toPs, PyData.eqv, PyData.eqvAll]
      rw [e]
      by_cases q1 : a = b
      · by_cases q2 : as = bs <;> simp [q1, q2]
      · simp [q1]
/-! ### data that may be no tree -/
/-- data nested so deep at most -/
inductive Bd : Nat → D → Prop
  | leaf {n : Nat} {x : D} : (tyD x).isSome = true → isT x = false → Bd n x
  | tup {n : Nat} {ds : List D} : ds.length ≤ 1000 → (∀ y ∈ ds, Bd n y) → Bd (n + 1) (.tup ds)
theorem Bd.some {n : Nat} {x : D} (h : Bd n x) : (tyD x).isSome = true := by
  cases h with
  | leaf a b => exact a
  | tup _ _ => rfl
theorem Bd.all {n : Nat} {ds : List D} (h : Bd n (.tup ds)) : ds.length ≤ 1000 ∧ ∃ m, n = m + 1 ∧ ∀ y ∈ ds, Bd m y := by
  cases h with
  | leaf a b => cases b
  | tup a b => exact ⟨a, _, rfl, b⟩
theorem Bd.up : ∀ {n m : Nat} {x : D}, Bd n x → n ≤ m → Bd m x
  | _, m, _, .leaf a b, _ => .leaf a b
  | _, 0, _, .tup a b, h => absurd h (by omega)
  | _, m + 1, _, .tup a b, h => .tup a fun y hy => (b y hy).up (by omega)
/-- the bound of depth does not matter above the data's depth -/
theorem gk_fuel {ts : List Trip} (nd : (ts.map (·.1)).Nodup) : ∀ {n : Nat} {x : D}, Bd n x → ∀ d e : Nat, n ≤ d → n ≤ e → gk ts d x = gk ts e x
  | _, _, .leaf a b, d, e, _, _ => by rw [gk_leaf b, gk_leaf b]
  | _, _, @Bd.tup n ds a b, d, e, h1, h2 => by
    obtain ⟨d, rfl⟩ : ∃ m, d = m + 1 := ⟨d - 1, by omega⟩
    obtain ⟨e, rfl⟩ : ∃ m, e = m + 1 := ⟨e - 1, by omega⟩
    cases ds with
    | nil => rfl
    | cons y ch =>
      cases hS : isS y with
      | false => rw [gk_head hS, gk_head hS]
      | true =>
        cases y <;> first | (cases hS; done) | skip
        rename_i c
        by_cases hc : c ∈ ts.map (·.1)
        · obtain ⟨t, tm, rfl⟩ := List.mem_map.mp hc
          rw [gk_at nd tm, gk_at nd tm, List.map_congr_left fun y hy => gk_fuel nd (b y (List.mem_cons_of_mem _ hy)) d e (by omega) (by omega)]
        · rw [gk_unknown hc, gk_unknown hc]
end GX

set_option Elab.async false
set_option linter.all false
set_option maxRecDepth 100000
set_option maxHeartbeats 4000000
/-! ### the size of data, bent trees -/
namespace GX
open PySem L2 PySem.Spec PyProof.Rows
mutual
/-- tuples within tuples -/
def dsz : D → Nat
  | .tup ds => 1 + dszs ds
  | _ => 0
def dszs : List D → Nat
  | [] => 0
  | d :: ds => dsz d + dszs ds
end
theorem dszs_app (a b : List D) : dszs (a ++ b) = dszs a + dszs b := by
  induction a with
  | nil => rw [List.nil_append, dszs, Nat.zero_add]
  | cons x a ih => rw [List.cons_append, dszs, dszs, ih, Nat.add_assoc]
theorem dszs_sub {a b : List D} (h : a.Sublist b) : dszs a ≤ dszs b := by
  induction h with
  | slnil => exact Nat.le_refl _
  | cons x _ ih => rw [dszs]; omega
  | cons_cons x _ ih => rw [dszs, dszs]; omega
mutual
theorem dsz_tD : ∀ t : T, dsz (tD t) = tsz t
  | .node c ch => by
    rw [tD, tsz, dsz, dszs, show dsz (.str c) = 0 from by rw [dsz]; exact fun _ h => (nomatch h), dszs_tDs ch, Nat.zero_add]
theorem dszs_tDs : ∀ l : List T, dszs (tDs l) = tszs l
  | [] => by rw [tDs, dszs, tszs]
  | t :: l => by rw [tDs, dszs, tszs, dsz_tD t, dszs_tDs l]
end
theorem dcut_sub (l : List D) (a b : Option Int) : (dcut l a b).Sublist l := by
  unfold dcut
  exact (List.take_sublist _ _).trans (List.drop_sublist _ _)
theorem bd_tD : ∀ (n : Nat) (t : T), tdp t ≤ n → tsz t ≤ 900 → Bd n (tD t) := by
  intro n
  induction n with
  | zero => intro t h; exact absurd h (Nat.not_le.mpr (tdp_pos0 t))
  | succ n ih =>
    rintro ⟨c, ch⟩ h hz
    rw [tdp] at h
    rw [tsz] at hz
    rw [tD_node]
    have lc := len_tszs ch
    refine .tup (by rw [List.length_cons, List.length_map]; omega) fun y hy => ?_
    rcases List.mem_cons.mp hy with rfl | hy
    · exact .leaf rfl rfl
    · obtain ⟨u, hu, rfl⟩ := List.mem_map.mp hy
      have h1 := tdps_le hu
      have h2 := tsz_mem hu
      exact ih u (by omega) (by omega)
/-- what a tree is bent to -/
structure BentOf (t : T) (y : D) : Prop where
  bd : Bd (tdp t + 1) y
  sz : dsz y ≤ 2 * tsz t + 1
theorem BentOf.leaf {t : T} {x : D} (h1 : (tyD x).isSome = true) (h2 : isT x = false) : BentOf t x := by
  refine ⟨.leaf h1 h2, ?_⟩
  have : dsz x = 0 := by
    cases x <;> first | (cases h2; done) | (rw [dsz]; exact fun _ h => (nomatch h))
  rw [this]
  exact Nat.zero_le _
theorem BentOf.of {t : T} {ds : List D} (h1 : ds.length ≤ 1000) (h2 : ∀ y ∈ ds, Bd (tdp t) y) (h3 : dszs ds ≤ 2 * tsz t) : BentOf t (.tup ds) := ⟨.tup h1 h2, by rw [dsz]; omega⟩
theorem dszs_at : ∀ {l : List D} {i : Nat} {x : D}, l[i]? = some x → dszs l = dszs (l.take i) + (dsz x + dszs (l.drop (i + 1)))
  | [], i, x, e => by cases e
  | y :: l, 0, x, e => by
    cases e
    rw [dszs, List.take_zero, dszs, Nat.zero_add]
    rfl
  | y :: l, i + 1, x, e => by
    rw [dszs, dszs_at (l := l) e, List.take_succ_cons, dszs, List.drop_succ_cons]
    omega
theorem BentOf.sub {t : T} {l s hd : List D} (hb : ∀ y ∈ l, Bd (tdp t) y) (hl : l.length ≤ 900) (hz : dszs l ≤ tsz t) (hs : s.Sublist l) (h1 : ∀ y ∈ hd, Bd (tdp t) y) (h2 : hd.length ≤ 100) (h3 : dszs hd ≤ tsz t) : BentOf t (.tup (hd ++ s)) := by
  have q := dszs_sub hs
  have q2 := hs.length_le
  refine .of (by rw [List.length_append]; omega) (fun y hy => ?_) (by rw [dszs_app]; omega)
  rcases List.mem_append.mp hy with e | e
  · exact h1 y e
  · exact hb y (hs.subset e)
theorem dsz_leaf {x : D} (h : isT x = false) : dsz x = 0 := by
  cases x <;> first | (cases h; done) | (rw [dsz]; exact fun _ h => (nomatch h))
theorem BentOf.one {t : T} {l s : List D} {x : D} (hb : ∀ y ∈ l, Bd (tdp t) y) (hl : l.length ≤ 900) (hz : dszs l ≤ tsz t) (hs : s.Sublist l) (h1 : (tyD x).isSome = true) (h2 : isT x = false) : BentOf t (.tup ([x] ++ s)) := by
  refine .sub hb hl hz hs (fun y hy => ?_) (Nat.le_of_ble_eq_true rfl) ?_
  · rw [List.mem_singleton.mp hy]
    exact .leaf h1 h2
  · rw [dszs, dszs, dsz_leaf h2]
    exact Nat.zero_le _
end GX

set_option Elab.async false
set_option linter.all false
set_option maxRecDepth 100000
set_option maxHeartbeats 4000000
/-! ### deep trees of one kind -/
namespace GX
open PySem L2 PySem.Spec PyProof.Rows TL
/-- a chain of nodes -/
def chT (a b : Str) : Nat → T
  | 0 => .node a []
  | n + 1 => .node b [chT a b n]
theorem chT_dp (a b : Str) : ∀ n, tdp (chT a b n) = n + 1
  | 0 => by rw [chT, tdp, tdps]
  | n + 1 => by
    rw [chT, tdp, tdps, tdps, chT_dp a b n]
    omega
theorem chT_sz (a b : Str) : ∀ n, tsz (chT a b n) = n + 1
  | 0 => by rw [chT, tsz, tszs]
  | n + 1 => by
    rw [chT, tsz, tszs, tszs, chT_sz a b n]
    omega
/-- the signature of one kind: a leaf, a wrap, a node of three parts -/
def quad (a b c k : Str) : List Trip := [(a, k, []), (b, k, [k]), (c, k, [k, k, k])]
theorem chT_ty {a b c k : Str} : ∀ n, Ty (quad a b c k) k (chT a b n)
  | 0 => .node (t := (a, k, [])) (ch := []) (by unfold quad; simp) rfl fun i p c e => by cases e
  | n + 1 => .node (t := (b, k, [k])) (ch := [chT a b n]) (by unfold quad; simp) rfl fun i p c e1 e2 => by
    cases i with
    | zero => cases e1; cases e2; exact chT_ty n
    | succ i => cases e1
theorem chT_of {a b c k : Str} {u : T} (ty : Ty (quad a b c k) k u) (hz : tsz u ≤ (kindsOf (quad a b c k)).length) (good : Good isNm (quad a b c k)) : u = chT a b 0 := by
  have e1 : kindsOf (quad a b c k) = [k] := by
    unfold quad kindsOf
    simp [addKind]
  rw [e1] at hz
  have hz : tsz u ≤ 1 := hz
  obtain ⟨c', ch⟩ := u
  rw [tsz] at hz
  have l := len_tszs ch
  obtain ⟨t, tm, rfl, _, hl, _⟩ := ty.inv
  have e2 : ch = [] := List.length_eq_zero_iff.mp (by omega)
  subst e2
  have hl : 0 = t.2.2.length := hl
  unfold quad at tm
  simp only [List.mem_cons, List.not_mem_nil, or_false] at tm
  rcases tm with rfl | rfl | rfl
  · rfl
  · cases hl
  · cases hl
end GX

set_option Elab.async false
set_option linter.all false
set_option maxRecDepth 100000
set_option maxHeartbeats 4000000
/-! ### trees over a signature of a leaf, a wrap and a node of three parts -/
namespace GX
open PySem L2 PySem.Spec
variable {a b c k : Str}
theorem quad_good {zs : List Str} (h : Names zs) (ea : zs[0]? = some a) (ek : zs[1]? = some k) (eb : zs[2]? = some b) (ec : zs[3]? = some c) : Good isNm (quad a b c k) := by
  have ma := List.mem_of_getElem? ea
  have mb := List.mem_of_getElem? eb
  have mc := List.mem_of_getElem? ec
  have mk := List.mem_of_getElem? ek
  have ne : ∀ {i j : Nat} {x y : Str}, zs[i]? = some x → zs[j]? = some y → i ≠ j → x ≠ y := by
    rintro i j x y e1 e2 n rfl
    exact n ((List.getElem?_inj (List.getElem?_eq_some_iff.mp e1).1 h.nd).mp (e1.trans e2.symm))
  have ek1 : kindsOf (quad a b c k) = [k] := by
    unfold quad kindsOf
    simp [addKind]
  have nms : ∀ t ∈ quad a b c k, t.1 ∈ zs ∧ t.2.1 = k ∧ t.2.2.length ≤ 3 ∧ ∀ p ∈ t.2.2, p = k := by
    intro t ht
    unfold quad at ht
    simp only [List.mem_cons, List.not_mem_nil, or_false] at ht
    rcases ht with rfl | rfl | rfl
    · exact ⟨ma, rfl, by simp, fun p hp => (nomatch hp)⟩
    · exact ⟨mb, rfl, by simp, fun p hp => by simpa using hp⟩
    · exact ⟨mc, rfl, by simp, fun p hp => by simpa using hp⟩
  refine ⟨fun t ht => ?_, ?_, by rw [ek1]; exact Nat.le_of_ble_eq_true rfl, fun k2 hk => ?_, fun t ht => Nat.le_trans (nms t ht).2.2.1 (by decide), fun t ht p hp => by rw [ek1, (nms t ht).2.2.2 p hp]; exact List.mem_cons_self .., fun k2 hk => ?_, Nat.le_of_ble_eq_true rfl, fun t ht => ?_⟩
  · rw [(nms t ht).2.1]
    exact ⟨(h.nm _ (nms t ht).1).1, (h.nm _ mk).1⟩
  · have n1 := ne ea eb (by decide)
    have n2 := ne ea ec (by decide)
    have n3 := ne eb ec (by decide)
    show [a, b, c].Nodup
    simp [n1, n2, n3]
  · unfold consOf
    rw [List.length_map]
    exact Nat.le_trans (List.length_filter_le _ _) (show 3 ≤ 6 by decide)
  · rw [ek1, List.mem_singleton] at hk
    subst hk
    exact Fint.mk (t := (a, k2, [])) (by unfold quad; exact List.mem_cons_self ..) fun p hp => (nomatch hp)
  · rw [(nms t ht).2.1]
    have l1 := (h.nm _ (nms t ht).1).2
    have l2 := (h.nm _ mk).2
    omega
theorem quad3_ty {x y z : T} (hx : Ty (quad a b c k) k x) (hy : Ty (quad a b c k) k y) (hz : Ty (quad a b c k) k z) : Ty (quad a b c k) k (.node c [x, y, z]) :=
  .node (t := (c, k, [k, k, k])) (ch := [x, y, z]) (by unfold quad; simp) rfl fun i p d e1 e2 => by
    match i with
    | 0 => cases e1; cases e2; exact hx
    | 1 => cases e1; cases e2; exact hy
    | 2 => cases e1; cases e2; exact hz
    | i + 3 => cases e1
theorem tsz3 (x y z : T) : tsz (.node c [x, y, z]) = 1 + tsz x + tsz y + tsz z := by
  rw [tsz, tszs, tszs, tszs, tszs]
  omega
theorem tdp3 (x y z : T) (n : Nat) (hx : tdp x ≤ n) (hy : tdp y ≤ n) (hz : tdp z ≤ n) : tdp (.node c [x, y, z]) ≤ n + 1 := by
  rw [tdp, tdps, tdps, tdps, tdps]
  omega
mutual
theorem tD_inj0 : ∀ t u : T, tD t = tD u → t = u
  | .node c ch, .node d cu, h => by
    rw [tD, tD] at h
    injection h with h
    injection h with h1 h2
    injection h1 with h1
    rw [h1, tDs_inj0 ch cu h2]
theorem tDs_inj0 : ∀ l m : List T, tDs l = tDs m → l = m
  | [], [], _ => rfl
  | [], _ :: _, h => by rw [tDs, tDs] at h; cases h
  | _ :: _, [], h => by rw [tDs, tDs] at h; cases h
  | t :: l, u :: m, h => by
    rw [tDs, tDs] at h
    injection h with h1 h2
    rw [tD_inj0 t u h1, tDs_inj0 l m h2]
end
theorem tD_inj {t u : T} (h : tD t = tD u) : t = u := tD_inj0 t u h
/-- a tree that is too deep has no kind -/
theorem gk_deep {ts : List Trip} (nd : (ts.map (·.1)).Nodup) {d : Nat} {t : T} (h : d < tdp t) : gk ts d (tD t) = none := by
  cases e : gk ts d (tD t) with
  | none => rfl
  | some k =>
    obtain ⟨u, eu, _, hu⟩ := gk_ty nd d _ k e
    rw [tD_inj eu] at h
    omega
section
variable {h : Hs} {Q : QD} {K : PySem.W.Frag} {x : D} {xs : List D} {k : Int}
/-- xs * k of a list -/
theorem w_repL (hx : LsV h x xs) (h0 : 0 ≤ k) (h1 : k ≤ 1000000) (hl : xs.length * k.toNat ≤ 1000000) (q : Fresh (List.replicate k.toNat xs).flatten h Q) : dR2 (rMulG K) x (.int k) h Q := dR2.ir (dR2.il fun v w H Q' r dx dy p => by
  cases dy
  obtain ⟨a, us, rfl, e1, a1⟩ := hx.at r dx
  have big : (1000000 : Nat) < sizeLine := by decide
  exact ⟨a, k, us, rfl, rfl, e1, by omega, by omega, by rw [a1.len]; omega, fun l nl => q.post p r nl (a1.repT _)⟩)
end
end GX

set_option Elab.async false
set_option linter.all false
set_option maxRecDepth 100000
set_option maxHeartbeats 4000000
set_option pp.maxSteps 2500
set_option pp.deepTerms.threshold 12
namespace Toy
open PySem L2 GX PySem.Spec TL
/-! ### one step of a reading over data -/
local macro_rules | `(tactic| walk_at "d1") => `(tactic| with_reducible first
  | refine' d_seq ?_ | refine' d_asg ?_ | refine' d_retF ?_ | refine' d_retN ?_ | refine' d_drop ?_ | refine' d_next ?_ | refine' d_break ?_ | refine' d_cont ?_ | refine' d_ifS ?_ | refine' d_par ?_ | refine' d_pr ?_
  | refine' d_cInt ?_ | refine' d_cBl ?_ | refine' d_cStr ?_ | refine' d_cNon ?_ | refine' d_cRef ?_ | refine' v_isBl ?_ | refine' v_notBl ?_ | refine' d_joined ?_ | refine' d_jcons ?_ | refine' d_jnil ?_ | refine' d_op ?_ | refine' d_un ?_ | refine' d_test ?_ | refine' d_B ?_ | refine' d_bl ?_
  | refine' d_and ?_ | refine' d_or ?_ | refine' d_not ?_ | refine' d_yes ?_ | refine' d_if ?_ | refine' d_andV ?_ | refine' d_orV ?_ | refine' d_notV ?_ | refine' d_chain ?_
  | refine' d_nil ?_ | refine' d_cons ?_ | refine' d_CB ?_ | refine' d_tup ?_ | refine' d_call ?_ | refine' d_fld ?_ | refine' d_sfld ?_ | refine' d_meth ?_ | refine' d_make ?_
  | refine' d_din ?_ | refine' d_dnin ?_ | refine' d_dget ?_ | refine' d_dput ?_ | refine' d_dsetd ?_ | refine' d_for ?_ | refine' d_lc ?_
  | refine' i_seq ?_ | refine' i_list ?_ | refine' i_tup ?_ | refine' i_str ?_ | refine' i_rng1 ?_ | refine' i_rng2 ?_ | refine' i_rng3 ?_ | refine' i_zip ?_ | refine' i_enum ?_
  | refine' d_sl ?_ | refine' d_part ?_ | refine' d_nopart ?_ | refine' d_M1 ?_ | refine' d_M0 ?_ | refine' x_part ?_ | refine' x_strE ?_ | refine' x_seqF ?_ | refine' x_seqT ?_ | refine' x_lstF ?_ | refine' x_isLf ?_
  | refine' ⟨_, g_name ?_⟩ | refine' g_name ?_ | refine' g_nil ?_ | refine' g_cons ?_ | refine' ⟨_, g_sub ?_⟩ | refine' x_same ?_ | refine' d_BML rfl ?_ | refine' d_BML0 rfl ?_)
local macro_rules | `(tactic| walk_at "dv") => `(tactic| ((with_reducible refine' d_var ?hv ?_); (case hv => rfl)))
/-- a cell's content -/
local macro_rules | `(tactic| walk_at "hn") => `(tactic| first
  | assumption | exact Ne.symm (by assumption)
  | ((refine' h_ne ?ha ?hb); (case hb => assumption); (case ha => walk_at "hc"))
  | ((refine' Ne.symm (h_ne ?ha ?hb)); (case hb => assumption); (case ha => walk_at "hc")))
local macro_rules | `(tactic| walk_at "hc") => `(tactic| first
  | assumption | exact seth_same
  | ((refine' (seth_ne ?hn).trans ?hh); (case hn => walk_at "hn"); (case hh => walk_at "hc")))
/-- a sequence seen -/
local macro_rules | `(tactic| walk_at "sq") => `(tactic| first
  | exact LsV.f | exact SqV.l | exact SqV.t | assumption | exact Or.inl (by assumption) | ((refine' LsV.c ?e0); (case e0 => walk_at "hc")) | ((refine' SqV.c ?e0); (case e0 => walk_at "hc")) | assumption)
local macro_rules | `(tactic| walk_at "lk") => `(tactic| first | (with_reducible exact lk0) | exact lkN | (refine lkS (by decide +kernel) ?_; walk_at "lk"))
local macro_rules | `(tactic| walk_at "iv") => `(tactic| first | exact InsV.f | assumption | ((refine' InsV.c ?e0); (case e0 => walk_at "hc")))
local macro_rules | `(tactic| walk_at "dk") => `(tactic| first | exact DkV.f | assumption | ((refine' DkV.c ?e0); (case e0 => walk_at "hc")))
local macro_rules | `(tactic| walk_at "cls") => `(tactic| first | assumption)
local macro_rules | `(tactic| walk_at "he") => `(tactic| first | rfl | assumption | exact atI_nat (by assumption) | exact atI_eq (by assumption) (by omega))
local macro_rules | `(tactic| walk_at "hl") => `(tactic| first | assumption | (simp only [List.length_map, List.length_append, List.length_cons, List.length_nil, List.length_replicate, strLen_append]; omega) | omega | decide)
local macro_rules | `(tactic| walk_at "dx") => `(tactic| first
  | ((with_reducible refine' d_aug ?hv ?_); (case hv => rfl))
  | ((with_reducible refine' ⟨_, g_tup ?hl ?_⟩); (case hl => rfl))
  | ((with_reducible refine' g_tup ?hl ?_); (case hl => rfl))
  | ((with_reducible refine' ⟨_, g_seqT ?hl ?_⟩); (case hl => rfl))
  | ((with_reducible refine' g_seqT ?hl ?_); (case hl => rfl))
  | ((with_reducible refine' ⟨_, g_seqL ?hx ?hl ?_⟩); (case hx => walk_at "sq"); (case hl => rfl))
  | ((with_reducible refine' g_seqL ?hx ?hl ?_); (case hx => walk_at "sq"); (case hl => rfl))
  | ((with_reducible refine' g_nameV ?hm ?_); (case hm => simp))
  | (with_reducible refine' g_consV ?_)
  | (with_reducible refine' g_nilV ?_)
  | ((with_reducible refine' x_seqC ?hs ?_); (case hs => walk_at "hc"))
  | ((with_reducible refine' x_lstC ?hs ?_); (case hs => walk_at "hc"))
  | ((with_reducible refine' x_isL ?hs ?_); (case hs => walk_at "hc"))
  | ((with_reducible refine' x_size ?hs ?_); (case hs => walk_at "hl"))
  | ((with_reducible refine' x_rg1 ?hs ?_); (case hs => constructor <;> first | omega | (simp only [List.length_map]; omega)))
  | ((with_reducible refine' x_rg2 ?hs ?_); (case hs => refine ⟨?_, ?_, ?_, ?_⟩ <;> first | omega | (simp only [List.length_map]; omega)))
  | (with_reducible refine' w_addI ?_)
  | ((with_reducible refine' w_mulI ?hc ?_); (case hc => first | assumption | exact cmul_small (by constructor <;> omega) (by constructor <;> omega)))
  | (with_reducible refine' v_I0i ?_)
  | (with_reducible refine' v_I0b ?_)
  | (with_reducible refine' v_Ui ?_)
  | (with_reducible refine' w_eqI ?_)
  | (with_reducible refine' w_eqS ?_)
  | (with_reducible refine' w_eqB ?_)
  | (with_reducible refine' w_neI ?_)
  | (with_reducible refine' w_neS ?_)
  | (with_reducible refine' w_neB ?_)
  | (with_reducible refine' v_isN ?_)
  | (with_reducible refine' v_notN ?_)
  | (with_reducible refine' w_inSign ?_)
  | ((with_reducible refine' w_inS ?hs ?_); (case hs => walk_at "sq"))
  | ((with_reducible refine' w_ninS ?hs ?_); (case hs => walk_at "sq"))
  | ((with_reducible refine' w_inI ?hs ?_); (case hs => walk_at "sq"))
  | ((with_reducible refine' w_ninI ?hs ?_); (case hs => walk_at "sq"))
  | ((with_reducible refine' w_addS ?hl ?_); (case hl => walk_at "hl"))
  | ((with_reducible refine' w_catT ?hl ?_); (case hl => walk_at "hl"))
  | ((with_reducible refine' w_slS ?hl ?_); (case hl => walk_at "hl"))
  | (with_reducible refine' w_slT ?_)
  | ((with_reducible refine' w_slL ?hs (.f ?_)); (case hs => walk_at "sq"))
  | ((with_reducible refine' w_lenS ?hl ?_); (case hl => walk_at "hl"))
  | ((with_reducible refine' w_len ?hs ?_); (case hs => walk_at "sq"))
  | ((with_reducible refine' w_lenD ?hs ?_); (case hs => walk_at "dk"))
  | ((with_reducible refine' v_tupOf ?hs ?_); (case hs => walk_at "sq"))
  | ((with_reducible refine' w_list ?hs (.f ?_)); (case hs => walk_at "sq"))
  | ((with_reducible refine' v_sum ?hs ?_); (case hs => walk_at "sq"))
  | ((with_reducible refine' v_all ?hs ?_); (case hs => walk_at "sq"))
  | ((with_reducible refine' v_any ?hs ?_); (case hs => walk_at "sq"))
  | (with_reducible refine' v_max2 ?_)
  | (with_reducible refine' v_min2 ?_)
  | (with_reducible refine' v_int1 ?_)
  | (with_reducible refine' v_int1b ?_)
  | (with_reducible refine' v_abs ?_)
  | ((with_reducible refine' w_ixT ?he ?_); (case he => walk_at "he"))
  | ((with_reducible refine' w_ixL ?hs ?he ?_); (case hs => walk_at "sq"); (case he => walk_at "he"))
  | ((with_reducible refine' v_app ?hs ?hl ?_); (case hs => walk_at "hc"); (case hl => walk_at "hl"))
  | ((with_reducible refine' v_insert ?hs ?hl ?h0 ?_); (case hs => walk_at "hc"); (case hl => walk_at "hl"); (case h0 => constructor <;> omega))
  | ((with_reducible refine' x_fldV ?hi ?hc ?hn ?hl ?_); (case hi => walk_at "iv"); (case hc => walk_at "cls"); (case hn => walk_at "cls"); (case hl => walk_at "lk"))
  | ((with_reducible refine' x_methV ?hi ?hl ?_); (case hi => walk_at "iv"); (case hl => walk_at "lk"))
  | ((with_reducible refine' x_sfldC ?hs ?hc ?hn ?hl ?_); (case hs => walk_at "hc"); (case hc => walk_at "cls"); (case hn => walk_at "cls"); (case hl => first | simp | (refine Nat.lt_of_le_of_lt putFD_len ?_; simp) | (refine Nat.lt_of_le_of_lt putFD_len (Nat.lt_of_le_of_lt (Nat.succ_le_succ putFD_len) ?_); simp)))
  | ((with_reducible refine' x_inS ?hs ?_); (case hs => walk_at "dk"))
  | ((with_reducible refine' x_inI ?hs ?_); (case hs => walk_at "dk"))
  | ((with_reducible refine' x_getS ?hs ?he ?_); (case hs => walk_at "dk"); (case he => assumption))
  | ((with_reducible refine' x_getI ?hs ?he ?_); (case hs => walk_at "dk"); (case he => assumption))
  | ((with_reducible refine' x_putS ?hs ?hl ?_); (case hs => walk_at "hc"); (case hl => walk_at "hl"))
  | ((with_reducible refine' x_putI ?hs ?hl ?_); (case hs => walk_at "hc"); (case hl => walk_at "hl"))
  | ((with_reducible refine' x_isK ?hs ?_); (case hs => walk_at "dk"))
  | ((with_reducible refine' x_isDV ?hs ?_); (case hs => walk_at "dk")))
/-- fields and dicts read, nothing made -/
local macro_rules | `(tactic| walk_at "dy") => `(tactic| first
  | ((with_reducible refine' x_fldV ?hi ?hc ?hn ?hl ?_); (case hi => walk_at "iv"); (case hc => walk_at "cls"); (case hn => walk_at "cls"); (case hl => walk_at "lk"))
  | ((with_reducible refine' x_methV ?hi ?hl ?_); (case hi => walk_at "iv"); (case hl => walk_at "lk"))
  | ((with_reducible refine' x_getS ?hs ?he ?_); (case hs => walk_at "dk"); (case he => assumption)))
local macro_rules | `(tactic| walk_at "de") => `(tactic| repeat' (first | walk_at "d1" | walk_at "dv" | walk_at "dy"))
local macro_rules | `(tactic| walk_at "dd") => `(tactic| repeat' (first | walk_at "d1" | walk_at "dv" | walk_at "dx"))

/-! ### equal texts -/
section
variable {P : Program} {w : World} {K : PySem.W.Frag} {mg : Str → Option Value} {base : Heap} {e : Env}
def tSame : TD := fun ds h Q => ∃ x y : D, ds = [x, y] ∧ shOk x ∧ shOk y ∧ Q (.bl (decide ((toP x).shown = (toP y).shown))) h
theorem sc__law_same : FnScope ["_law_found", "_law_due"] ["_law_found", "_law_due"] (defScope s__law_same) :=
  ⟨rfl, rfl, rfl, by decide +kernel, rfl, by decide +kernel, by decide +kernel⟩
theorem ok__law_same (T : Txt K mg e) : FnG P w K mg base CX0 1 e.f__law_same e.d__law_same ["_law_found", "_law_due"] (spD (tSame)) := by
  refine okD T.F__law_same sc__law_same (fun ds h Q z => by obtain ⟨x, y, rfl, _⟩ := z; rfl) (fun cdv A outer s H E hG hr => ?_)
  refine ⟨_, (pss_one (ps_ret (pe_cmpR (op_eqG (K := K) rfl hr.units) (pe_callB (call_reprK (K := K) rfl hG (units180 hr)) (by rfl) T.n_repr (by decide +kernel) (pa_cons (pv 0) pa_nil)) (pe_callB (call_reprK (K := K) rfl hG (units180 hr)) (by rfl) T.n_repr (by decide +kernel) (pa_cons (pv 1) pa_nil)) (nomark _)))), ?_⟩
  intro ds h Q z
  try dsimp only [cxOf, Cx.nox, Cx.wish]
  obtain ⟨x, y, rfl, s1, s2, k⟩ := z
  walk_at "dd"
  refine v_repr s1 ?_
  walk_at "dd"
  refine v_repr s2 ?_
  walk_at "dd"
  exact frz0 k
end

/-! ### gcd, common -/
section
variable {P : Program} {w : World} {K : PySem.W.Frag} {mg : Str → Option Value} {base : Heap} {e : Env}
def tGcd : TD := fun ds h Q => ∃ a b : Int, ds = [.int a, .int b] ∧ Q (.int ((Nat.gcd a.natAbs b.natAbs : Nat) : Int)) h
theorem abs_nat (a : Int) : (if a < 0 then -a else a) = ((a.natAbs : Nat) : Int) := by split <;> omega
theorem sc_gcd : FnScope ["one", "other"] ["one", "other"] (defScope s_gcd) :=
  ⟨rfl, rfl, rfl, by decide +kernel, rfl, by decide +kernel, by decide +kernel⟩
theorem ok_gcd (T : Txt K mg e) : FnG P w K mg base CX0 1 e.f_gcd e.d_gcd ["one", "other"] (spD (tGcd)) := by
  refine okD T.F_gcd sc_gcd (fun ds h Q z => by obtain ⟨a, b, rfl, _⟩ := z; rfl) (fun cdv A outer s H E hG hr => ?_)
  refine ⟨_, (pss_cons (ps_par (i := 0) (j := 1) (by rfl) sc_gcd.nd rfl rfl (by decide) rfl rfl (pa_cons (pe_callB call_abs (by rfl) T.n_abs (by decide +kernel) (pa_cons (pv 0) pa_nil)) (pa_cons (pe_callB call_abs (by rfl) T.n_abs (by decide +kernel) (pa_cons (pv 1) pa_nil)) pa_nil)) (by rfl))
  (pss_cons (ps_while PassesOwn.never (pt_cmpR op_gt (pv 1) pe_int (nomark _))
    (pss_one (ps_par (i := 0) (j := 1) (by rfl) sc_gcd.nd rfl rfl (by decide) rfl rfl (pa_cons (pv 1) (pa_cons (pe_op op_mod (pv 0) (pv 1)) pa_nil)) (by rfl))))
  (pss_one (ps_ret (pv 0))))), ?_⟩
  intro ds h Q z
  try dsimp only [cxOf, Cx.nox, Cx.wish]
  obtain ⟨a, b, rfl, k⟩ := z
  walk_at "dd"
  rw [abs_nat, abs_nat]
  refine while_D [] (fun m ρ h' => ∃ x : Nat, ρ = [some (.int (x : Int)), some (.int (m : Int))] ∧ h' = h ∧ Nat.gcd x m = Nat.gcd a.natAbs b.natAbs) b.natAbs ⟨a.natAbs, rfl, rfl, rfl⟩ ?_
  rintro m ρ h' ⟨x, rfl, rfl, eg⟩
  walk_at "dd"
  refine ite_b (fun hc => ?_) (fun hc => ?_)
  · have hc := of_decide_eq_true hc
    walk_at "dd"
    refine v_Ii hc ?_
    walk_at "dd"
    refine ⟨x % m, Nat.mod_lt _ (by omega), m, rfl, rfl, ?_⟩
    rw [← eg, Nat.gcd_comm x m, Nat.gcd_rec m x, Nat.gcd_comm]
  · have hc := of_decide_eq_false hc
    have m0 : m = 0 := by omega
    subst m0
    rw [Nat.gcd_zero_right] at eg
    walk_at "dd"
    rw [eg]
    exact frz0 k
def intsD (l : IL) : List D := l.map D.int
def tCommon : TD := fun ds h Q => ∃ l : IL, ds = [.lst (intsD l)] ∧ l.length ≤ 1000 ∧ Q (.int ((cm l : Nat) : Int)) h
theorem sc_common : FnScope ["numbers", "found", "number"] ["numbers"] (defScope s_common) :=
  ⟨rfl, rfl, rfl, by decide +kernel, rfl, by decide +kernel, by decide +kernel⟩
theorem ok_common (T : Txt K mg e) : FnG P w K mg base CX0 2 e.f_common e.d_common ["numbers"] (spD (tCommon)) := by
  refine okD T.F_common sc_common (fun ds h Q z => by obtain ⟨l, rfl, _⟩ := z; rfl) (fun cdv A outer s H E hG hr => ?_)
  refine ⟨_, (pss_cons (ps_set (i := 1) sc_common.nd rfl (by first | exact Or.inl rfl | exact Or.inr rfl) pe_int)
  (pss_cons (ps_for PassesOwn.never rfl (pi_seqK (K := K) rfl (pv 0)) (pg_name (i := 2) sc_common.nd rfl (by first | exact Or.inl rfl | exact Or.inr rfl))
    (pss_one (ps_set (i := 1) sc_common.nd rfl (by first | exact Or.inl rfl | exact Or.inr rfl) (pe_callG (ok_gcd T) hG (hr.mono (by first | decide | omega)) (by rfl) T.g_gcd T.F_gcd.kp T.b_gcd .nil pass0 (pa_cons (pv 1) (pa_cons (pv 2) pa_nil))))))
  (pss_one (ps_ret (pv 1))))), ?_⟩
  intro ds h Q z
  try dsimp only [cxOf, Cx.nox, Cx.wish]
  obtain ⟨l, rfl, hl, k⟩ := z
  walk_at "dd"
  refine for_P [2] l D.int rfl (fun pre ρ h' => ρ = [some (.lst (intsD l)), some (.int ((cm pre : Nat) : Int)), none] ∧ h' = h) ⟨rfl, rfl⟩ (fun _ _ _ _ => trivial) ?_ ?_
  · rintro pre x post ρ h' el ⟨rfl, rfl⟩
    walk_at "dd"
    refine ⟨_, _, rfl, ?_⟩
    walk_at "dd"
    rw [show ((Nat.gcd ((cm pre : Nat) : Int).natAbs x.natAbs : Nat) : Int) = ((cm (pre ++ [x]) : Nat) : Int) from by unfold cm cmF; rw [List.foldl_append]; rfl]
    exact ⟨rfl, rfl⟩
  · rintro ρ h' ⟨rfl, rfl⟩
    walk_at "dd"
    exact frz0 k
def tCommonV : TD := fun ds h Q => ∃ (x0 : D) (l : IL), ds = [x0] ∧ Sq0 x0 (intsD l) ∧ l.length ≤ 1000 ∧ Q (.int ((cm l : Nat) : Int)) h
theorem sc__law_common : FnScope ["_law_numbers", "_law_found", "_law_number", "_law_one", "_law_other"] ["_law_numbers"] (defScope s__law_common) :=
  ⟨rfl, rfl, rfl, by decide +kernel, rfl, by decide +kernel, by decide +kernel⟩
theorem ok__law_common (T : Txt K mg e) : FnG P w K mg base CX0 2 e.f__law_common e.d__law_common ["_law_numbers"] (spD (tCommonV)) := by
  refine okD T.F__law_common sc__law_common (fun ds h Q z => by obtain ⟨x0, l, rfl, _⟩ := z; rfl) (fun cdv A outer s H E hG hr => ?_)
  refine ⟨_, (pss_cons (ps_set (i := 1) sc__law_common.nd rfl (by first | exact Or.inl rfl | exact Or.inr rfl) pe_int)
  (pss_cons (ps_for PassesOwn.never rfl (pi_seqK (K := K) rfl (pv 0)) (pg_name (i := 2) sc__law_common.nd rfl (by first | exact Or.inl rfl | exact Or.inr rfl))
    (pss_cons (ps_par (i := 3) (j := 4) (by rfl) sc__law_common.nd rfl rfl (by decide) rfl rfl (pa_cons (pv 1) (pa_cons (pe_callB call_abs (by rfl) T.n_abs (by decide +kernel) (pa_cons (pv 2) pa_nil)) pa_nil)) (by rfl))
      (pss_cons (ps_while PassesOwn.never (pt_cmpR op_gt (pv 4) pe_int (nomark _))
        (pss_one (ps_par (i := 3) (j := 4) (by rfl) sc__law_common.nd rfl rfl (by decide) rfl rfl (pa_cons (pv 4) (pa_cons (pe_op op_mod (pe_callTy call_int1 (by rfl) T.n_int (by decide +kernel) (pa_cons (pv 3) pa_nil)) (pv 4)) pa_nil)) (by rfl))))
      (pss_one (ps_set (i := 1) sc__law_common.nd rfl (by first | exact Or.inl rfl | exact Or.inr rfl) (pv 3))))))
  (pss_one (ps_ret (pv 1))))), ?_⟩
  intro ds h Q z
  try dsimp only [cxOf, Cx.nox, Cx.wish]
  obtain ⟨x0, l, rfl, sx0, hl, k⟩ := z
  walk_at "dd"
  refine x_seq0 sx0 ?_
  refine for_P [2, 3, 4] l D.int rfl (fun pre ρ h' => ρ = [some x0, some (.int ((cm pre : Nat) : Int)), none, none, none] ∧ h' = h) ⟨rfl, rfl⟩ (fun _ _ _ _ => trivial) ?_ ?_
  · rintro pre x post ρ h' el ⟨rfl, rfl⟩
    walk_at "dd"
    rw [abs_nat]
    refine while_D [] (fun m ρ h2 => ∃ y : Nat, ρ = [some x0, some (.int ((cm pre : Nat) : Int)), some (.int x), some (.int (y : Int)), some (.int (m : Int))] ∧ h2 = h' ∧ Nat.gcd y m = Nat.gcd (cm pre) x.natAbs) x.natAbs ⟨cm pre, rfl, rfl, rfl⟩ ?_
    rintro m ρ h2 ⟨y, rfl, rfl, eg⟩
    walk_at "dd"
    refine ite_b (fun hc => ?_) (fun hc => ?_)
    · have hc := of_decide_eq_true hc
      walk_at "dd"
      refine v_Ii hc ?_
      walk_at "dd"
      refine ⟨y % m, Nat.mod_lt _ (by omega), m, rfl, rfl, ?_⟩
      rw [← eg, Nat.gcd_comm y m, Nat.gcd_rec m y, Nat.gcd_comm]
    · have hc := of_decide_eq_false hc
      have m0 : m = 0 := by omega
      subst m0
      rw [Nat.gcd_zero_right] at eg
      walk_at "dd"
      rw [eg, show ((Nat.gcd (cm pre) x.natAbs : Nat) : Int) = ((cm (pre ++ [x]) : Nat) : Int) from by unfold cm cmF; rw [List.foldl_append]; rfl]
      exact ⟨rfl, rfl⟩
  · rintro ρ h' ⟨rfl, rfl⟩
    walk_at "dd"
    exact frz0 k
end

end Toy

set_option Elab.async false
set_option linter.all false
set_option maxRecDepth 100000
set_option maxHeartbeats 4000000
/-! ### a comprehension whose items call what knows the maker's cells -/
namespace GX
open PySem L2 PySem.Spec PyProof.Rows

/-- the maker's cells, seen from a block of its: known, untracked, nobody's frame -/
def BOk (X : Cx) (S : List (Addr × Obj)) (s : Shared) (H : Hp) (fp : List Addr) : Prop :=
  ∀ b o, S.lookup b = some o → (s.heap.get? b = some o ∧ H b = none) ∧ b ∉ frs X.stack ∧ b ∉ fp ∧ X.base.get? b = none
def tLcC (cells : List (Str × Addr)) (N : List Str) (sc : Scope) (gh : Nat) (wi : TI) (g : TG) (teS : List (Addr × Obj) → TE) (vs : List Nat) : TE := fun σ H Q =>
  wi σ H fun J H1 => ∀ S, SOk cells N sc σ H1 S → tLc (fun _ _ R => R J H1) g tYes (teS S) vs (σ.set gh (some (.ref 0))) H1 Q
section
variable {X : Cx}
/-- what is left behind the block -/
theorem inv_noghost {pins : List (Addr × Obj)} {σ : L2.St} {H : Hp} {s : Shared} {g : Nat} {x : Str} {v : V} (I : Inv X pins (σ.set g (some v)) H s) (hx : X.N[g]? = some x) (nv : ¬ Vis X.env.scope x) : Inv X pins σ H s := by
  refine ⟨I.ok, I.os, I.bare, I.base, ?_, I.cell, I.free, I.freeC, I.pin, I.hok, by have := I.len; rwa [List.length_set] at this⟩
  obtain ⟨m, hn, hl⟩ := I.loc
  refine ⟨m, hn, fun i y w e1 e2 e3 => ?_⟩
  have ne : g ≠ i := by
    rintro rfl
    rw [hx] at e1
    cases e1
    exact nv e3
  exact hl i y w e1 (by rw [List.getElem?_set_ne ne]; exact e2) e3
theorem pe_lcC {elt tg iter : Expr} {scope : Scope} {own : List (Str × Nat)} {pos : Pos} {wi : TI} {g : TG} {teS : List (Addr × Obj) → TE} {gh : Nat} {gn : Str}
    (hc : X.calm = true) (hN : X.N.Nodup) (hfn : ∀ x, X.fn x = true) (hgh : X.N[gh]? = some gn) (nv : ¬ Vis X.env.scope gn)
    (hi : PI X tg iter wi) (ok : BlkOk X.N X.env.scope scope own)
    (hg : ∀ s H C cl fp, PG (X.blk s H scope (compEnvC scope cl C X.env) fp) tg g)
    (he : ∀ S s H C cl fp, BOk X S s H fp → PE (X.blk s H scope (compEnvC scope cl C X.env) fp) elt (teS S))
    (hs : ∀ x, foldedSetIterable iter X.env x = pure x := by intro _; rfl) :
    PE X (.ListComp elt [⟨tg, iter, [], 0⟩] scope pos) (tLcC X.env.cells X.N X.env.scope gh wi g teS (own.map (·.2))) := by
  refine ⟨fun pins s σ0 H Q I h => ?_⟩
  have outer : ∀ y ∈ scope.names, y.2 = .free → ∃ c, X.env.cells.lookup y.1 = some c := fun y hy e => I.ok.has _ (ok.free y hy e)
  rw [eval_ListComp]
  refine wpAny_comprehension_free (use := none) rfl hs (closure_ok outer) ok.kind (fun y hy e => e ▸ ok.uniq y hy) ?_
  refine thn (hi.run pins s σ0 H _ I h) fun v s1 hv => thn hv ?_
  rintro _ s2 ⟨it, fp, tn, J, H2, rfl, I20, T, tn2, ff, q⟩
  obtain ⟨so, kn⟩ := sok_of I20 hfn
  have inS : ∀ b o, (pinsOf X.env.cells s2.heap X.env.cells).lookup b = some o → ∃ x, X.env.cells.lookup x = some b := fun b o e => (pinsOf_get e).2
  have q := q _ so
  generalize pinsOf X.env.cells s2.heap X.env.cells = S at so kn inS q
  have I2 := inv_ghost I20 hN hgh nv (.ref 0)
  generalize hσ : σ0.set gh (some (.ref 0)) = σ at q I2
  refine wpAny_newObj_type (newEnv_comp ?_) (Nat.zero_le _)
  -- the list that is made
  have nL := I2.hok.fresh (Nat.le_refl s2.heap.objs.size)
  obtain ⟨W, ⟨m0, w0⟩, turn⟩ := q _ nL
  have I3 := I2.laid (t' := s2.toks) (h' := s2.heap.push { cls := .type "list", data := .seq ([] : List Value).toArray }) (o := .lst []) (fun b o e => Heap.get?_push_of_some _ e) (Nat.le_refl _) ⟨Nat.zero_le _, [], 0, .nil, Heap.get?_push_size _ rfl⟩
  have young : ∀ b ∈ fp, b < s2.heap.objs.size := fun b hb => (T.obj _ _ tn2 b hb).elim fun _ z => Heap.lt_size z.1
  have nf3 : ∀ b ∈ fp, upd H2 s2.heap.objs.size (.lst []) b = none := fun b hb => (upd_ne (Nat.ne_of_lt (young b hb))).trans (ff b hb).1
  have bok : BOk X S { s2 with heap := s2.heap.push { cls := .type "list", data := .seq ([] : List Value).toArray } } (upd H2 s2.heap.objs.size (.lst [])) fp := fun b o e =>
    have at_ := kn.get b o e
    ⟨⟨Heap.get?_push_of_some _ at_, (upd_ne (Nat.ne_of_lt (Heap.lt_size at_))).trans (so.none b o e)⟩, kn.nofs b o e, fun hb => (inS b o e).elim fun x hx => (ff b hb).2.2.2.2.1 x b hx rfl, kn.nobs b o e⟩
  have ff3 : ∀ b ∈ fp, FpOk X pins (upd H2 s2.heap.objs.size (.lst [])) b ∧ b < (s2.heap.push { cls := .type "list", data := .seq ([] : List Value).toArray }).objs.size := fun b hb =>
    ⟨⟨nf3 b hb, (ff b hb).2⟩, by rw [Heap.size_push]; exact Nat.lt_succ_of_lt (young b hb)⟩
  have tn3 : tn 0 (s2.heap.push { cls := .type "list", data := .seq ([] : List Value).toArray }) := T.keep _ _ _ tn2 fun b _ o e => Heap.get?_push_of_some _ e
  generalize hs3 : ({ s2 with heap := s2.heap.push { cls := .type "list", data := .seq ([] : List Value).toArray } } : Shared) = s3 at bok
  have hp3 : s2.heap.push { cls := .type "list", data := .seq ([] : List Value).toArray } = s3.heap := by rw [← hs3]
  rw [hp3] at ff3 tn3
  have I3 : Inv X pins σ (upd H2 s2.heap.objs.size (.lst [])) s3 := hs3 ▸ I3
  generalize upd H2 s2.heap.objs.size (.lst []) = H3 at *
  generalize s2.heap.objs.size = D at *
  have I4 := block_start I3 ok hN ff3
  have tn4 : tn 0 (pushCells (s3.heap.push { cls := .type "dict", data := .dict #[] }) scope.names) := T.keep _ _ _ tn3 fun b _ o e => pushCells_keeps _ _ _ _ (Heap.get?_push_of_some _ e)
  have pg := hg s3 H3 s3.heap.objs.size (cellsFrom (s3.heap.objs.size + 1) scope.names (cloFrom X.env.cells scope.names [])) fp
  have pe := he S s3 H3 s3.heap.objs.size (cellsFrom (s3.heap.objs.size + 1) scope.names (cloFrom X.env.cells scope.names [])) fp bok
  show codeAny _ _ (.compStart _ 0 (.ref it) (.ref D) (compEnvC scope (cellsFrom (s3.heap.objs.size + 1) scope.names (cloFrom X.env.cells scope.names [])) s3.heap.objs.size X.env)) (compPost _ X.A X.xe none _ (.ref D) s3.heap.objs.size) _
  generalize hce : compEnvC scope (cellsFrom (s3.heap.objs.size + 1) scope.names (cloFrom X.env.cells scope.names [])) s3.heap.objs.size X.env = ce at I4 pg pe ⊢
  have eL : ce.locals = s3.heap.objs.size := hce ▸ rfl
  generalize hs4 : ({ s3 with heap := pushCells (s3.heap.push { cls := .type "dict", data := .dict #[] }) scope.names } : Shared) = s4 at I4 ⊢
  have tn4 : tn 0 s4.heap := hs4 ▸ tn4
  have mine : ∀ {τ : L2.St} {Hk : Hp} {sk : Shared}, Inv (X.blk s3 H3 scope ce fp) [] τ Hk sk → (∀ b ∈ fp, Hk b = none) → ∀ b ∈ fp, FpOk (X.blk s3 H3 scope ce fp) [] Hk b := fun Ik nk b hb =>
    ⟨nk b hb, (Ik.ok.exf b hb).1, Ik.ok.exfs b hb, .inl hb, (Ik.ok.exf b hb).2, fun p hp => (List.not_mem_nil hp).elim⟩
  have loop : codeAny (model X.prog X.w) X.A (.compLoop (.ListComp elt [⟨tg, iter, [], 0⟩] scope pos) 0 (.ref it) (.ref D) ce) (compPost (model X.prog X.w) X.A X.xe none (EP X pins σ0 Q) (.ref D) s3.heap.objs.size) s4 := by
    refine compLoop_any (fun n sk => ∃ i Hk, W i n Hk ∧ (∀ b ∈ fp, Hk b = none) ∧ tn i sk.heap ∧ Inv (X.blk s3 H3 scope ce fp) [] (wipe σ (own.map (·.2))) Hk sk) ?_ m0 ⟨0, H3, w0, fun b hb => (ff3 b hb).1.1, tn4, I4⟩
    rintro n s5 ⟨i, H5, w5, n5, tn5, I5⟩
    rcases turn i n H5 w5 with ⟨stop, qq⟩ | ⟨go, Nx, dn, step⟩
    · refine thnF (T.done (X.blk s3 H3 scope ce fp) rfl rfl rfl hc i [] s5 _ H5 (fun _ _ => False) I5 (mine I5 n5) tn5 stop) ?_
      rintro _ s6 ⟨rfl, I6⟩
      have back : Inv X pins σ H5 s6 := I3.call' (ch := fp) I6.os I6.base I6.hok I6.bare fun b hb =>
        have z := (ff3 b hb).1.2
        ⟨z.2.2.1, z.1, z.2.2.2.1, z.2.2.2.2⟩
      obtain ⟨m, hm, _⟩ := I6.loc
      have hm : s6.heap.Ns ce.locals m := hm
      have nC : H5 ce.locals = none := I6.free
      rw [eL] at hm nC
      refine ⟨m, hm, fun h' sb => ?_⟩
      obtain ⟨f0, f1, f2, f3, f4, f5⟩ := I3.fpOk (Nat.le_refl _) nC
      subst hσ
      exact ⟨.ref D, H5, inv_noghost (back.turned (t' := s6.toks) (fun b o hb e => (sb.2 b hb).trans e) f0 f1 f3 f4 f5) hgh nv, rfl, qq⟩
    · refine thnF (T.item (X.blk s3 H3 scope ce fp) rfl rfl rfl hc i [] s5 _ H5 (fun _ _ => False) I5 (mine I5 n5) tn5 go) ?_
      rintro _ s6 ⟨u, rfl, h6⟩
      refine thnF h6 ?_
      rintro _ s7 ⟨x, H7, I7, rx, yx, tn7, n7⟩
      have P7 := I7.pinned (mine I7 n7) (T.obj _ _ tn7)
      refine thnF (pg.run _ s7 _ H7 x u _ P7 rx (step x H7 yx)) ?_
      rintro _ s8 ⟨σ8, H8, I8, e8, q8⟩
      refine thnF ((pts_nil (X := X.blk s3 H3 scope ce fp)).run _ s8 σ8 H8 _ I8 q8) ?_
      rintro b s9 ⟨H9, I9, q9⟩
      -- a turn is over
      have over : ∀ {sk : Shared} {Hk : Hp}, Inv (X.blk s3 H3 scope ce fp) ([] ++ pinsAt fp s7.heap) σ8 Hk sk → Nx Hk → ∃ m, m < n ∧ ∃ i Hk, W i m Hk ∧ (∀ b ∈ fp, Hk b = none) ∧ tn i sk.heap ∧ Inv (X.blk s3 H3 scope ce fp) [] (wipe σ (own.map (·.2))) Hk sk := fun {sk Hk} Ik nx => by
        obtain ⟨m, hm, wm⟩ := dn Hk nx
        have at7 : ∀ b ∈ fp, ∀ o, s7.heap.get? b = some o → sk.heap.get? b = some o ∧ Hk b = none := fun b hb o e =>
          have z := Ik.pin (b, o) (List.mem_append_right _ (List.mem_append_right _ (mem_pinsAt hb e)))
          ⟨z.1, z.2.1⟩
        refine ⟨m, hm, i + 1, Hk, wm, fun b hb => (T.obj _ _ tn7 b hb).elim fun o z => (at7 b hb o z.1).2, T.keep _ _ _ tn7 fun b hb o e => (at7 b hb o e).1, ?_⟩
        rw [← e8]
        exact (Ik.unpinned (pins := [])).weak (wipe_length _ _) fun j w e => (wipe_some e).1
      cases b with
      | false => exact over I9 q9
      | true =>
        refine thnF (pe.run _ s9 σ8 H9 _ I9 q9) ?_
        rintro z s10 ⟨y, H10, I10, r10, acc, a10, z10, nx⟩
        exact app_ok (X := X.blk s3 H3 scope ce fp) I10 a10 z10 r10 fun s11 I11 => over I11 nx
  exact codeAny_compStart_list loop (T.self X.A 0 _ _ _ tn4 loop)
end
/-- a def called within such a block: the maker's cells are known to it -/
def tCallS (S : List (Addr × Obj)) (sp : Sp) (t : TA) : TE := fun σ H Q => t σ H fun vs H1 => (∀ b o, S.lookup b = some o → H1 b = none) →
  sp vs (pinA S H1) (fun v H' => (∀ b o, S.lookup b = some o → H' b = some (pinO o b)) → Q v (unpinA S H')) (fun _ _ _ => False)
section
variable {X : Cx} {s0 : Shared} {H0 : Hp} {scope : Scope} {cenv : Env} {fp : List Addr} {S : List (Addr × Obj)} {e : Expr} {es : List Expr} {t : TA} {p pos : Pos} {x : Str} {k : Nat} {f : Addr} {fd : FuncData} {ps : List Str} {sp : Sp}
theorem pe_callS (bok : BOk X S s0 H0 fp) (F : FnG X.prog X.w X.K X.mg X.base (L2.CX X.prog X.w) k f fd ps sp) (hG : X.A.guards = some []) (hr : Room k X.A) (hg : Gl (X.blk s0 H0 scope cenv fp) x) (hm : X.mg x = some (.ref f)) (hk : PySem.W.keepIn X.K (.ref f) = true)
    (hb : Binds X.K fd ps []) (ha : PA (X.blk s0 H0 scope cenv fp) (e :: es) t) (hdb : (x == ("__debug__" : Str)) = false := by decide)
    (he : starEach (e :: es) cenv = (false, eval e cenv) :: starEach es cenv := by rfl) (hpl : (backTo pos (starEach es cenv)).any (·.1) = false := by rfl) :
    PE (X.blk s0 H0 scope cenv fp) (.Call (.Name x p) (e :: es) [] pos) (tCallS S sp t) := by
  refine ⟨fun pins s σ H Q I h => ?_⟩
  refine wpAny_Call_Name_kw (ld_glob I hg hm ?_ hdb)
  refine PySem.W.callWith_K (h₀ := X.base) I.ok.mod.kin hk ?_ he hpl
  refine thn (ha.run pos pins s σ H _ I h) ?_
  rintro us s1 ⟨vs, H1, I1, r, q⟩
  refine ⟨I1.kIn, ?_⟩
  have at1 : ∀ b o, S.lookup b = some o → s1.heap.get? b = some o ∧ H1 b = none := fun b o e =>
    have ⟨⟨g0, n0⟩, n1, n2, _⟩ := bok b o e
    ⟨I1.base.keep b o g0 n0 n1 n2, I1.base.free b o g0 n0 n2⟩
  have kn : KnownS S s1.heap X.base (frs X.stack) := ⟨fun b o e => (at1 b o e).1, fun b o e => (bok b o e).2.1, fun b o e => (bok b o e).2.2.2⟩
  have q := q fun b o e => (at1 b o e).2
  have hl : us.length = ps.length := r.length ▸ F.len _ _ _ _ q
  have b2 := hb s1 us I1.kIn (by rw [List.append_nil]; exact hl)
  rw [List.append_nil] at b2
  have z := F.run X.A X.stack s1 _ ⟨us, []⟩ us vs _ _ hG hr (env0_pin I1.env0 kn fun b o e => (at1 b o e).2) b2 r q
  refine wpAny_call (codeAny_mono z fun r s' hq => ?_)
  have hq2 := cr_unpin (E' := fun _ _ _ => False) (Q' := Q) kn (fun b o e => (at1 b o e).2) (fun v H' a q => q a) (fun c d H' a q => q) hq
  match r, hq2 with
  | .error e, ⟨_, _, _, _, _, _, _, _, _, _, _, _, y⟩ => exact y.elim
  | .ok (.ret u), hq2 => exact I1.after hq2
end
end GX

set_option Elab.async false
set_option linter.all false
set_option maxRecDepth 100000
set_option maxHeartbeats 4000000
/-! ### closures of a list, asked one by one in a comprehension -/
namespace GX
open PySem L2 PySem.Spec PyProof.Rows

/-- the captured names' values, as facts -/
def CvOk (Pn : Hs) (G : Hp) : Prop := ∀ b o d, Pn b = some (.cellv o d) → ∃ u v, o.data = .cell (some u) ∧ RelV v u ∧ Dx G v d
section
open Classical
variable {P : Program} {w : World} {K : PySem.W.Frag} {mg : Str → Option Value} {base : Heap}
  {ρ : Rho} {h : Hs} {H : Hp} {σ : L2.St} {Q : QD} {g k : Nat} {t : TDX} {a : TA} {cells : List (Str × Addr)} {N : List Str} {sc : Scope} {S : List (Addr × Obj)} {Pn : Hs}
/-- what a look at the maker's cells gives -/
theorem pn_of (hN : N.Nodup) (r1 : Rel ρ h σ H) (so : SOk cells N sc σ H S) : PnOk cells N sc ρ h (pnOf cells N sc ρ S) ∧ CvOk (pnOf cells N sc ρ S) (Fz h H) := by
  have val : ∀ (i : Nat) x d, N[i]? = some x → ρ[i]? = some (some d) → sc.names.lookup x = some .cell ∨ sc.names.lookup x = some .free →
      ∃ c o u v, cells.lookup x = some c ∧ S.lookup c = some o ∧ o.data = .cell (some u) ∧ RelV v u ∧ Dx (Fz h H) v d := by
    intro i x d e1 e2 e3
    obtain ⟨v, ev, dv⟩ := r1.sl i d e2
    obtain ⟨c, o, u, k1, k2, k3, k4⟩ := so.val i x v e1 ev e3
    exact ⟨c, o, u, v, k1, k2, k3, k4, dv⟩
  have uniq : ∀ {b : Addr} {i j : Nat} {x y : Str} {d d' : D}, N[i]? = some x → ρ[i]? = some (some d) → cells.lookup x = some b → N[j]? = some y → ρ[j]? = some (some d') → cells.lookup y = some b → d = d' := by
    intro b i j x y d d' a1 a2 a3 b1 b2 b3
    have := so.inj x y b a3 b3
    subst this
    have := nodup_ix hN a1 b1
    subst this
    rw [a2] at b2
    cases b2
    rfl
  refine ⟨⟨⟨S, pnOf_s, so.all⟩, fun b o e => ?_, so.inj, fun i x d e1 e2 e3 => ?_⟩, fun b o d e => ?_⟩
  · cases q2 : S.lookup b with
    | some o2 => exact r1.rh.no (so.none b o2 q2)
    | none => unfold pnOf at e; rw [q2] at e; cases e
  · obtain ⟨c, o, u, v, k1, k2, _⟩ := val i x d e1 e2 e3
    refine ⟨c, o, k1, ?_⟩
    unfold pnOf
    rw [k2]
    dsimp only
    have zz : ∃ d, ∃ (i : Nat) (x : Str), N[i]? = some x ∧ ρ[i]? = some (some d) ∧ (sc.names.lookup x = some .cell ∨ sc.names.lookup x = some .free) ∧ cells.lookup x = some c := ⟨d, i, x, e1, e2, e3, k1⟩
    rw [dif_pos zz]
    obtain ⟨i2, x2, y1, y2, _, y4⟩ := zz.choose_spec
    rw [uniq y1 y2 y4 e1 e2 k1]
  · unfold pnOf at e
    split at e
    · cases e
    · rename_i o2 eo
      split at e
      · rename_i zz
        have e0 := Option.some.inj e
        injection e0 with e1 e2
        subst e1
        obtain ⟨i, x, y1, y2, y3, y4⟩ := zz.choose_spec
        rw [e2] at y2
        obtain ⟨c, o3, u, v, k1, k2, k3, k4, k5⟩ := val i x d y1 y2 y3
        rw [y4] at k1
        cases k1
        rw [eo] at k2
        cases k2
        exact ⟨u, v, k3, k4, k5⟩
      · cases e
theorem cv_mono {Pn : Hs} : ∀ G1 G2, SameU G1 G2 → CvOk Pn G1 → CvOk Pn G2 := fun G1 G2 s z b o d e =>
  let ⟨u, v, e1, e2, e3⟩ := z b o d e
  ⟨u, v, e1, e2, e3.monoU s⟩
theorem cv_at {φ : Hp → Prop} (r : Rel ρ h σ H) (e : ρ[g]? = some (some (.fact φ))) : φ (Fz h H) := by
  obtain ⟨v, _, dv⟩ := r.sl g _ e
  cases dv with
  | fact z _ => exact z
theorem d_lcC {wi : TI} {tg : TG} {teS : List (Addr × Obj) → TE} {vs : List Nat} {gh : Nat} (hN : N.Nodup)
    (z : dI wi ρ h fun ds Sd h1 => ∀ S Pn, PnS S Pn → PnOk cells N sc ρ h1 Pn → dLcGo tg tYes (teS S) vs (ρ.set gh (some (.fact (CvOk Pn)))) Q ds Sd h1) :
    dE (tLcC cells N sc gh wi tg teS vs) ρ h Q := fun σ H Q' rl p =>
  z σ H _ rl fun ds Sd J h1 H1 q rh1 s1 it S so => by
    obtain ⟨ok, cv⟩ := pn_of hN (rl.step rh1 s1) so
    exact r_lc (lcgo_of ((rl.step rh1 s1).set (.fact cv cv_mono) gh) (p.step s1) it (q S _ pnOf_s ok))
/-- a def called within the block -/
theorem d_callS (e : ρ[g]? = some (some (.fact (CvOk Pn)))) (pn : PnS S Pn)
    (z : dA a ρ h fun xs h1 => (∀ b c, Pn b = some c → h1 b = none) → t xs (ov Pn h1) (liftQ Pn Q) fun _ _ _ => False) : dE (tCallS S (spDX t) a) ρ h Q := fun σ H Q' rl p =>
  z σ H _ rl fun xs h1 vs H1 q dx rh s so => by
    have r1 := rl.step rh s
    have cv : CvOk Pn (Fz h1 H1) := cv_at r1 e
    have n1 : ∀ b o, S.lookup b = some o → h1 b = none := fun b o e => rh.no (so b o e)
    have eF : Fz (ov Pn h1) (pinA S H1) = Fz h1 H1 := fz_ov pn n1 so
    refine ⟨xs, _, _, _, by rw [eF]; exact dx, relH_ov pn rh so cv, q fun b c e => ?_, ?_, fun _ _ _ _ _ _ x => x.elim⟩
    · rcases pn.all b with ⟨_, y⟩ | ⟨o, y, _⟩
      · rw [y] at e; cases e
      · exact n1 b o y
    · rintro x h' v H' ⟨h2, rfl, n2, q2⟩ dx' r' s' _
      have n3 : ∀ b o, S.lookup b = some o → h2 b = none := fun b o e => by
        obtain ⟨c, y⟩ := pn.some e
        exact n2 b c y
      obtain ⟨r2, e2⟩ := relH_unov pn r' n3
      unfold Sm at s'
      rw [e2] at dx' s'
      rw [eF] at s'
      exact p x h2 v _ q2 dx' r2 (s.trans s')
/-- what is known no more, ahead of a statement -/
theorem dS_del {f : Addr} {c : DO} {ts : TS} {E : DEnds} (e : h f = some c) (n1 : ∀ la, c ≠ .src la) (n2 : c ≠ .held) (z : dS ts E ρ (delh h f)) : dS ts E ρ h := fun σ H E' rl p =>
  z σ H E' (rl.step (rl.rh.del e n1 n2) fz_del) (p.step fz_del)
end
section
variable {P : Program} {w : World} {K : PySem.W.Frag} {mg : Str → Option Value} {base : Heap} {ρ ρl : Rho} {h Pn : Hs} {g k n0 : Nat} {N : List Str} {sc : Scope} {Cv Cm f : Addr} {F : CloF} {tb : WX → TE} {gn : Str} {y : D}
theorem PnOk.at {cells : List (Str × Addr)} {h2 : Hs} (p : PnOk cells N sc ρ h Pn) (n : ∀ b c, Pn b = some c → h2 b = none) : PnOk cells N sc ρ h2 Pn := ⟨p.ex, n, p.inj, p.val⟩
/-- why(ask), the closure made before -/
theorem ask_why (hN : N.Nodup) (hf : h f = some (.clo F)) (pn : PnOk (cellsFrom n0 sc.names []) N sc ρ h Pn) (T : LamT F.scope sc N F.dn) (B : BindF F) (hc : F.cl = cloFrom (cellsFrom n0 sc.names []) F.scope.names []) (hg : N[g]? = some gn) (nv : ¬ Vis F.scope gn)
    (hbody : ∀ (f : Addr) (A : Around) (outer : List Env) (s : Shared) (H : Hp) (E : XK) (c' : Addr) (W : WX), Takes (cxL P w K mg base N F f c' A outer s H E) W → A.guards = some [] → Room k (A.deeper (envL F s.heap.objs.size f c')) → PE (cxL P w K mg base N F f c' A outer s H E) F.body (tb W))
    (hρ : ∀ (i : Nat) d, ρl[i]? = some (some d) → ρ[i]? = some (some d) ∧ ∃ x, N[i]? = some x ∧ F.scope.names.lookup x = some .free) (hl : ρl.length = N.length)
    (z : ∀ W, dE (tb W) (ρl.set g (some (.fact (Thr (fun C fs h1 => ∃ wd r, Told K Cv Cm C fs wd r ∧ y = .tup [.str wd, .tup r] ∧ h1 = h) W)))) h fun _ h1 => y = .tup [.str "", .tup []] ∧ h1 = h) :
    tWhy P w K mg base (k + 1) Cv Cm [.ref f] (ov Pn h) (liftQ Pn fun x h1 => h1 = h ∧ x = y) fun _ _ _ => False := by
  refine ⟨f, liftQ Pn fun x h1 => y = .tup [.str "", .tup []] ∧ h1 = h, liftX Pn fun C fs h1 => ∃ wd r, Told K Cv Cm C fs wd r ∧ y = .tup [.str wd, .tup r] ∧ h1 = h, rfl,
    runs_of hf (lamG0_of T hc) B pn (lamRho_of T hc) hN hg nv hρ hl (fun A outer s H E c' hG hr => hbody f A outer s H E c' _ takes_lam hG hr) z (fun x h' q no => ⟨h', rfl, no, q⟩) (fun C fs h' x no => ⟨h', rfl, no, x⟩), ?_, ?_⟩
  · rintro x h1 ⟨h2, rfl, no, q1, q2⟩
    exact ⟨h2, rfl, no, q2, q1.symm⟩
  · rintro C fs h1 ⟨h2, rfl, no, wd, r, q0, q1, q2⟩
    exact ⟨wd, r, q0, h2, rfl, no, q2, q1.symm⟩
end
end GX

set_option Elab.async false
set_option linter.all false
set_option maxRecDepth 100000
set_option maxHeartbeats 1000000
set_option pp.maxSteps 2500
set_option pp.deepTerms.threshold 12
namespace Toy
open PySem L2 GX PySem.Spec TL
/-! ### one step of a reading over data -/
local macro_rules | `(tactic| walk_at "d1") => `(tactic| with_reducible first
  | refine' d_seq ?_ | refine' d_asg ?_ | refine' d_retF ?_ | refine' d_retN ?_ | refine' d_drop ?_ | refine' d_next ?_ | refine' d_break ?_ | refine' d_cont ?_ | refine' d_ifS ?_ | refine' d_par ?_ | refine' d_pr ?_
  | refine' d_cInt ?_ | refine' d_cBl ?_ | refine' d_cStr ?_ | refine' d_cNon ?_ | refine' d_cRef ?_ | refine' v_isBl ?_ | refine' v_notBl ?_ | refine' d_joined ?_ | refine' d_jcons ?_ | refine' d_jnil ?_ | refine' d_op ?_ | refine' d_un ?_ | refine' d_test ?_ | refine' d_B ?_ | refine' d_bl ?_
  | refine' d_and ?_ | refine' d_or ?_ | refine' d_not ?_ | refine' d_yes ?_ | refine' d_if ?_ | refine' d_andV ?_ | refine' d_orV ?_ | refine' d_notV ?_ | refine' d_chain ?_
  | refine' d_nil ?_ | refine' d_cons ?_ | refine' d_CB ?_ | refine' d_tup ?_ | refine' d_call ?_ | refine' d_fld ?_ | refine' d_sfld ?_ | refine' d_meth ?_ | refine' d_make ?_
  | refine' d_din ?_ | refine' d_dnin ?_ | refine' d_dget ?_ | refine' d_dput ?_ | refine' d_dsetd ?_ | refine' d_for ?_ | refine' d_lc ?_
  | refine' i_seq ?_ | refine' i_list ?_ | refine' i_tup ?_ | refine' i_str ?_ | refine' i_rng1 ?_ | refine' i_rng2 ?_ | refine' i_rng3 ?_ | refine' i_zip ?_ | refine' i_enum ?_
  | refine' d_sl ?_ | refine' d_part ?_ | refine' d_nopart ?_ | refine' d_M1 ?_ | refine' d_M0 ?_ | refine' x_part ?_ | refine' x_strE ?_ | refine' x_seqF ?_ | refine' x_seqT ?_ | refine' x_lstF ?_ | refine' x_isLf ?_
  | refine' ⟨_, g_name ?_⟩ | refine' g_name ?_ | refine' g_nil ?_ | refine' g_cons ?_ | refine' ⟨_, g_sub ?_⟩ | refine' x_same ?_ | refine' d_BML rfl ?_ | refine' d_BML0 rfl ?_)
local macro_rules | `(tactic| walk_at "dv") => `(tactic| ((with_reducible refine' d_var ?hv ?_); (case hv => rfl)))
/-- a cell's content -/
local macro_rules | `(tactic| walk_at "hn") => `(tactic| first
  | assumption | exact Ne.symm (by assumption)
  | ((refine' h_ne ?ha ?hb); (case hb => assumption); (case ha => walk_at "hc"))
  | ((refine' Ne.symm (h_ne ?ha ?hb)); (case hb => assumption); (case ha => walk_at "hc")))
local macro_rules | `(tactic| walk_at "hc") => `(tactic| first
  | assumption | exact seth_same
  | ((refine' (seth_ne ?hn).trans ?hh); (case hn => walk_at "hn"); (case hh => walk_at "hc")))
/-- a sequence seen -/
local macro_rules | `(tactic| walk_at "sq") => `(tactic| first
  | exact LsV.f | exact SqV.l | exact SqV.t | assumption | exact Or.inl (by assumption) | ((refine' LsV.c ?e0); (case e0 => walk_at "hc")) | ((refine' SqV.c ?e0); (case e0 => walk_at "hc")) | assumption)
local macro_rules | `(tactic| walk_at "lk") => `(tactic| first | (with_reducible exact lk0) | exact lkN | (refine lkS (by decide +kernel) ?_; walk_at "lk"))
local macro_rules | `(tactic| walk_at "iv") => `(tactic| first | exact InsV.f | assumption | ((refine' InsV.c ?e0); (case e0 => walk_at "hc")))
local macro_rules | `(tactic| walk_at "dk") => `(tactic| first | exact DkV.f | assumption | ((refine' DkV.c ?e0); (case e0 => walk_at "hc")))
local macro_rules | `(tactic| walk_at "cls") => `(tactic| first | assumption)
local macro_rules | `(tactic| walk_at "he") => `(tactic| first | rfl | assumption | exact atI_nat (by assumption) | exact atI_eq (by assumption) (by omega))
local macro_rules | `(tactic| walk_at "hl") => `(tactic| first | assumption | (simp only [List.length_map, List.length_append, List.length_cons, List.length_nil, List.length_replicate, strLen_append]; omega) | omega | decide)
local macro_rules | `(tactic| walk_at "dx") => `(tactic| first
  | ((with_reducible refine' d_aug ?hv ?_); (case hv => rfl))
  | ((with_reducible refine' ⟨_, g_tup ?hl ?_⟩); (case hl => rfl))
  | ((with_reducible refine' g_tup ?hl ?_); (case hl => rfl))
  | ((with_reducible refine' ⟨_, g_seqT ?hl ?_⟩); (case hl => rfl))
  | ((with_reducible refine' g_seqT ?hl ?_); (case hl => rfl))
  | ((with_reducible refine' ⟨_, g_seqL ?hx ?hl ?_⟩); (case hx => walk_at "sq"); (case hl => rfl))
  | ((with_reducible refine' g_seqL ?hx ?hl ?_); (case hx => walk_at "sq"); (case hl => rfl))
  | ((with_reducible refine' g_nameV ?hm ?_); (case hm => simp))
  | (with_reducible refine' g_consV ?_)
  | (with_reducible refine' g_nilV ?_)
  | ((with_reducible refine' x_seqC ?hs ?_); (case hs => walk_at "hc"))
  | ((with_reducible refine' x_lstC ?hs ?_); (case hs => walk_at "hc"))
  | ((with_reducible refine' x_isL ?hs ?_); (case hs => walk_at "hc"))
  | ((with_reducible refine' x_size ?hs ?_); (case hs => walk_at "hl"))
  | ((with_reducible refine' x_rg1 ?hs ?_); (case hs => constructor <;> first | omega | (simp only [List.length_map]; omega)))
  | ((with_reducible refine' x_rg2 ?hs ?_); (case hs => refine ⟨?_, ?_, ?_, ?_⟩ <;> first | omega | (simp only [List.length_map]; omega)))
  | (with_reducible refine' w_addI ?_)
  | ((with_reducible refine' w_mulI ?hc ?_); (case hc => first | assumption | exact cmul_small (by constructor <;> omega) (by constructor <;> omega)))
  | (with_reducible refine' v_I0i ?_)
  | (with_reducible refine' v_I0b ?_)
  | (with_reducible refine' v_Ui ?_)
  | (with_reducible refine' w_eqI ?_)
  | (with_reducible refine' w_eqS ?_)
  | (with_reducible refine' w_eqB ?_)
  | (with_reducible refine' w_neI ?_)
  | (with_reducible refine' w_neS ?_)
  | (with_reducible refine' w_neB ?_)
  | (with_reducible refine' v_isN ?_)
  | (with_reducible refine' v_notN ?_)
  | (with_reducible refine' w_inSign ?_)
  | ((with_reducible refine' w_inS ?hs ?_); (case hs => walk_at "sq"))
  | ((with_reducible refine' w_ninS ?hs ?_); (case hs => walk_at "sq"))
  | ((with_reducible refine' w_inI ?hs ?_); (case hs => walk_at "sq"))
  | ((with_reducible refine' w_ninI ?hs ?_); (case hs => walk_at "sq"))
  | ((with_reducible refine' w_addS ?hl ?_); (case hl => walk_at "hl"))
  | ((with_reducible refine' w_catT ?hl ?_); (case hl => walk_at "hl"))
  | ((with_reducible refine' w_slS ?hl ?_); (case hl => walk_at "hl"))
  | (with_reducible refine' w_slT ?_)
  | ((with_reducible refine' w_slL ?hs (.f ?_)); (case hs => walk_at "sq"))
  | ((with_reducible refine' w_lenS ?hl ?_); (case hl => walk_at "hl"))
  | ((with_reducible refine' w_len ?hs ?_); (case hs => walk_at "sq"))
  | ((with_reducible refine' w_lenD ?hs ?_); (case hs => walk_at "dk"))
  | ((with_reducible refine' v_tupOf ?hs ?_); (case hs => walk_at "sq"))
  | ((with_reducible refine' w_list ?hs (.f ?_)); (case hs => walk_at "sq"))
  | ((with_reducible refine' v_sum ?hs ?_); (case hs => walk_at "sq"))
  | ((with_reducible refine' v_all ?hs ?_); (case hs => walk_at "sq"))
  | ((with_reducible refine' v_any ?hs ?_); (case hs => walk_at "sq"))
  | (with_reducible refine' v_max2 ?_)
  | (with_reducible refine' v_min2 ?_)
  | (with_reducible refine' v_int1 ?_)
  | (with_reducible refine' v_int1b ?_)
  | (with_reducible refine' v_abs ?_)
  | ((with_reducible refine' w_ixT ?he ?_); (case he => walk_at "he"))
  | ((with_reducible refine' w_ixL ?hs ?he ?_); (case hs => walk_at "sq"); (case he => walk_at "he"))
  | ((with_reducible refine' v_app ?hs ?hl ?_); (case hs => walk_at "hc"); (case hl => walk_at "hl"))
  | ((with_reducible refine' v_insert ?hs ?hl ?h0 ?_); (case hs => walk_at "hc"); (case hl => walk_at "hl"); (case h0 => constructor <;> omega))
  | ((with_reducible refine' x_fldV ?hi ?hc ?hn ?hl ?_); (case hi => walk_at "iv"); (case hc => walk_at "cls"); (case hn => walk_at "cls"); (case hl => walk_at "lk"))
  | ((with_reducible refine' x_methV ?hi ?hl ?_); (case hi => walk_at "iv"); (case hl => walk_at "lk"))
  | ((with_reducible refine' x_sfldC ?hs ?hc ?hn ?hl ?_); (case hs => walk_at "hc"); (case hc => walk_at "cls"); (case hn => walk_at "cls"); (case hl => first | simp | (refine Nat.lt_of_le_of_lt putFD_len ?_; simp) | (refine Nat.lt_of_le_of_lt putFD_len (Nat.lt_of_le_of_lt (Nat.succ_le_succ putFD_len) ?_); simp)))
  | ((with_reducible refine' x_inS ?hs ?_); (case hs => walk_at "dk"))
  | ((with_reducible refine' x_inI ?hs ?_); (case hs => walk_at "dk"))
  | ((with_reducible refine' x_getS ?hs ?he ?_); (case hs => walk_at "dk"); (case he => assumption))
  | ((with_reducible refine' x_getI ?hs ?he ?_); (case hs => walk_at "dk"); (case he => assumption))
  | ((with_reducible refine' x_putS ?hs ?hl ?_); (case hs => walk_at "hc"); (case hl => walk_at "hl"))
  | ((with_reducible refine' x_putI ?hs ?hl ?_); (case hs => walk_at "hc"); (case hl => walk_at "hl"))
  | ((with_reducible refine' x_isK ?hs ?_); (case hs => walk_at "dk"))
  | ((with_reducible refine' x_isDV ?hs ?_); (case hs => walk_at "dk")))
/-- fields and dicts read, nothing made -/
local macro_rules | `(tactic| walk_at "dy") => `(tactic| first
  | ((with_reducible refine' x_fldV ?hi ?hc ?hn ?hl ?_); (case hi => walk_at "iv"); (case hc => walk_at "cls"); (case hn => walk_at "cls"); (case hl => walk_at "lk"))
  | ((with_reducible refine' x_methV ?hi ?hl ?_); (case hi => walk_at "iv"); (case hl => walk_at "lk"))
  | ((with_reducible refine' x_getS ?hs ?he ?_); (case hs => walk_at "dk"); (case he => assumption)))
local macro_rules | `(tactic| walk_at "de") => `(tactic| repeat' (first | walk_at "d1" | walk_at "dv" | walk_at "dy"))
local macro_rules | `(tactic| walk_at "dd") => `(tactic| repeat' (first | walk_at "d1" | walk_at "dv" | walk_at "dx"))

/-! ### rows with 0 -/
section
variable {P : Program} {w : World} {K : PySem.W.Frag} {mg : Str → Option Value} {base : Heap} {e : Env}
theorem bits_cm {b : Nat} {l : IL} {d : Int} (n : d ≠ 0) (h : d.natAbs < 2 ^ b) (m : d ∈ l) : (cm l) < 2 ^ b := by
  have := Int.ofNat_dvd_left.mp (cm_dvd m)
  exact Nat.lt_of_le_of_lt (Nat.le_of_dvd (Int.natAbs_pos.mpr n) this) h
theorem ints_at {l : IL} {i : Nat} (h : i < l.length) : (intsD l)[i]? = some (.int (at0 l i)) := by
  unfold intsD at0
  rw [List.getElem?_map, List.getD_eq_getElem?_getD, List.getElem?_eq_getElem h]
  rfl
theorem ints_zip (u v : IL) : prsD (intsD u) (intsD v) = (u.zip v).map fun p => D.tup [.int p.1, .int p.2] := prsD_map D.int D.int u v
theorem ints_comb {s t : Int} {u v : IL} : (u.zip v).map (fun p => D.int (s * p.1 - t * p.2)) = intsD (comb s t u v) := by
  unfold intsD comb
  rw [List.map_zip_eq_zipWith, List.map_zipWith]
  rfl
theorem ints_div {d : Int} {u : IL} : u.map (fun x => D.int (x.fdiv d)) = intsD (divL d u) := by unfold intsD divL; rw [List.map_map]; rfl
theorem ints_app (u v : IL) : intsD u ++ intsD v = intsD (u ++ v) := by unfold intsD; rw [List.map_append]
theorem ints_rep (k : Nat) : List.replicate k (D.int 0) = intsD (List.replicate k 0) := by unfold intsD; rw [List.map_replicate]
theorem ints_len (u : IL) : (intsD u).length = u.length := List.length_map ..
theorem mulw {i j : Int} {a b : Nat} (ha : i.natAbs < 2 ^ a) (hb : j.natAbs < 2 ^ b) (h1 : a ≤ 10000) (h2 : b ≤ 10000) : CMulW i j :=
  wide_mul (a := a + 1) (b := b + 1) (Nat.lt_of_lt_of_le ha (Nat.pow_le_pow_right (by decide) (by omega))) (Nat.lt_of_lt_of_le hb (Nat.pow_le_pow_right (by decide) (by omega))) (by omega) (by omega) (by omega)
theorem any_piv {l : IL} : (l.map fun x => !decide (x = 0)).any id = !(piv l).isEmpty := by
  have h1 : (l.map fun x => !decide (x = 0)).any id = true ↔ ∃ x ∈ l, x ≠ 0 := by simp
  have h2 : (!(piv l).isEmpty) = true ↔ ∃ x ∈ l, x ≠ 0 := by
    constructor
    · intro h
      cases e : piv l with
      | nil => rw [e] at h; cases h
      | cons p r =>
        obtain ⟨hp, hn⟩ := piv_mem.mp (show p ∈ piv l by rw [e]; exact List.mem_cons_self ..)
        refine ⟨at0 l p, ?_, hn⟩
        unfold at0
        rw [List.getD_eq_getElem?_getD, List.getElem?_eq_getElem hp]
        exact List.getElem_mem hp
    · rintro ⟨x, hx, hn⟩
      obtain ⟨i, hi⟩ := List.getElem?_of_mem hx
      have hl := (List.getElem?_eq_some_iff.mp hi).1
      have : i ∈ piv l := piv_mem.mpr ⟨hl, by unfold at0; rw [List.getD_eq_getElem?_getD, hi]; exact hn⟩
      cases e : piv l with
      | nil => rw [e] at this; cases this
      | cons p r => rfl
  exact Bool.eq_iff_iff.mpr (h1.trans h2.symm)
def vecD (s : IL) : D := .tup (intsD s)
def lstD (s : IL) : D := .lst (intsD s)
def tPrim : TD := fun ds h Q => ∃ (r : IL) (b : Nat), ds = [.lst (intsD r)] ∧ r.length ≤ 100 ∧ b < 9000 ∧ Bits b r ∧ Q (.tup (intsD (prim r))) h
theorem sc_primitive : FnScope ["row", "divisor", "first", "number"] ["row"] (defScope s_primitive) :=
  ⟨rfl, rfl, rfl, by decide +kernel, rfl, by decide +kernel, by decide +kernel⟩
theorem ok_primitive (T : Txt K mg e) : FnG P w K mg base CX0 3 e.f_primitive e.d_primitive ["row"] (spD (tPrim)) := by
  refine okD T.F_primitive sc_primitive (fun ds h Q z => by obtain ⟨r, b, rfl, _⟩ := z; rfl) (fun cdv A outer s H E hG hr => ?_)
  refine ⟨_, (pss_cons (ps_set (i := 1) sc_primitive.nd rfl (by first | exact Or.inl rfl | exact Or.inr rfl) (pe_callG (ok_common T) hG (hr.mono (by first | decide | omega)) (by rfl) T.g_common T.F_common.kp T.b_common .nil pass0 (pa_cons (pv 0) pa_nil)))
  (pss_cons (ps_if (pt_cmpR (op_eqG (K := K) rfl hr.units) (pv 1) pe_int (nomark _))
    (pss_one (ps_ret (pe_callTy (call_tupleK (K := K) rfl) (by rfl) T.n_tuple (by decide +kernel) (pa_cons (pv 0) pa_nil))))
    pss_nil)
  (pss_cons (ps_set (i := 2) sc_primitive.nd rfl (by first | exact Or.inl rfl | exact Or.inr rfl) (pe_ix (ix_seqK (K := K) rfl) (pe_lc (own := [("number", 3)]) (g := (gName 3)) rfl sc_primitive.nd (pi_seqK (K := K) rfl (pv 0)) (blkOk_by (own := [("number", 3)]) (N := ["row", "divisor", "first", "number"]) (sc := defScope (top 3)) (by decide +kernel)) (fun _ _ _ _ _ => (pg_name (i := 3) sc_primitive.nd rfl (by first | exact Or.inl rfl | exact Or.inr rfl))) (fun _ _ _ _ _ => pts_one (pt_cmpR (op_neG (K := K) rfl hr.units) (pv 3) pe_int (nomark _))) (fun _ _ _ _ _ => (pv 3))) pe_int (fun _ _ => rfl)))
  (pss_cons (ps_if (pt_cmpR op_lt (pv 2) pe_int (nomark _))
    (pss_one (ps_set (i := 1) sc_primitive.nd rfl (by first | exact Or.inl rfl | exact Or.inr rfl) (pe_un un_neg (pv 1))))
    pss_nil)
  (pss_one (ps_ret (pe_callTy (call_tupleK (K := K) rfl) (by rfl) T.n_tuple (by decide +kernel) (pa_cons (pe_lc (own := [("number", 3)]) (g := (gName 3)) (tt := tYes) rfl sc_primitive.nd (pi_seqK (K := K) rfl (pv 0)) (blkOk_by (own := [("number", 3)]) (N := ["row", "divisor", "first", "number"]) (sc := defScope (top 3)) (by decide +kernel)) (fun _ _ _ _ _ => (pg_name (i := 3) sc_primitive.nd rfl (by first | exact Or.inl rfl | exact Or.inr rfl))) (fun _ _ _ _ _ => pts_nil) (fun _ _ _ _ _ => (pe_op op_fdivWN (pv 3) (pv 1)))) pa_nil)))))))), ?_⟩
  intro ds h Q z
  try dsimp only [cxOf, Cx.nox, Cx.wish]
  obtain ⟨r, b, rfl, hl, hb, br, k⟩ := z
  walk_at "dd"
  refine ⟨r, rfl, by omega, ?_⟩
  walk_at "dd"
  refine ite_b (fun h0 => ?_) (fun h0 => ?_)
  · have h0 := of_decide_eq_true h0
    have h0 : cm r = 0 := by omega
    unfold prim at k
    rw [if_pos h0] at k
    walk_at "dd"
    exact frz0 k
  · have h0 : cm r ≠ 0 := by
      have := of_decide_eq_false h0
      omega
    obtain ⟨x, t, ex⟩ : ∃ x t, r.filter (fun x => decide (x ≠ 0)) = x :: t := by
      cases e : r.filter (fun x => decide (x ≠ 0)) with
      | nil =>
        refine absurd (cm_zero fun x hx => ?_) h0
        by_cases n : x = 0
        · exact n
        · have : x ∈ r.filter (fun x => decide (x ≠ 0)) := List.mem_filter.mpr ⟨hx, decide_eq_true n⟩
          rw [e] at this
          cases this
      | cons x t => exact ⟨x, t, rfl⟩
    have ef : fstNZ r = x := by unfold fstNZ; rw [ex]; rfl
    have hx : x ∈ r ∧ x ≠ 0 := by
      have : x ∈ r.filter (fun x => decide (x ≠ 0)) := by rw [ex]; exact List.mem_cons_self ..
      have := List.mem_filter.mp this
      exact ⟨this.1, of_decide_eq_true this.2⟩
    have bx : cm r < 2 ^ b := bits_cm hx.2 (br x hx.1) hx.1
    walk_at "dd"
    refine lc_flt r D.int (fun x => decide (x ≠ 0)) D.int rfl (by omega) .t ?_ (.f ?_)
    · intro p acc i z np ez
      walk_at "dd"
      refine ⟨by simp, fun _ => ?_⟩
      walk_at "dd"
      first | done | rfl | exact ⟨rfl, rfl⟩
    rw [ex]
    walk_at "dd"
    refine w_ixL .f (atI_eq (n := 0) rfl rfl) ?_
    walk_at "dd"
    unfold prim at k
    rw [if_neg h0, ef] at k
    refine ite_b (fun hc => ?_) (fun hc => ?_)
    · have hc := of_decide_eq_true hc
      rw [if_pos (show x < 0 by omega)] at k
      obtain ⟨dd, edd, dn, dlt⟩ : ∃ dd : Int, dd = -((cm r : Nat) : Int) ∧ dd ≠ 0 ∧ dd.natAbs < 2 ^ b := ⟨_, rfl, by omega, by omega⟩
      rw [← edd] at k
      walk_at "dd"
      try rw [← edd]
      refine lc_map r D.int (fun x => .int (x.fdiv dd)) rfl (by omega) .t ?_ (.f ?_)
      · intro pa acc i y np eq'
        walk_at "dd"
        refine v_Ii (cdiv_of dn dlt hb) ?_
        walk_at "dd"
        rfl
      rw [ints_div]
      walk_at "dd"
      exact frz0 k
    · have hc := of_decide_eq_false hc
      rw [if_neg (show ¬ x < 0 by omega)] at k
      obtain ⟨dd, edd, dn, dlt⟩ : ∃ dd : Int, dd = ((cm r : Nat) : Int) ∧ dd ≠ 0 ∧ dd.natAbs < 2 ^ b := ⟨_, rfl, by omega, by omega⟩
      rw [← edd] at k
      walk_at "dd"
      try rw [← edd]
      refine lc_map r D.int (fun x => .int (x.fdiv dd)) rfl (by omega) .t ?_ (.f ?_)
      · intro pa acc i y np eq'
        walk_at "dd"
        refine v_Ii (cdiv_of dn dlt hb) ?_
        walk_at "dd"
        rfl
      rw [ints_div]
      walk_at "dd"
      exact frz0 k
def tClr : TD := fun ds h Q => ∃ (r hd : IL) (p b : Nat), ds = [.lst (intsD r), .lst (intsD hd), .int (p : Int)] ∧ r.length = hd.length ∧ r.length ≤ 100 ∧ p < r.length ∧ b ≤ 4000 ∧ Bits b r ∧ Bits b hd ∧ Q (.lst (intsD (clr p hd r))) h
theorem sc_cleared : FnScope ["row", "head", "place", "mixed", "divisor", "one", "two", "number"] ["row", "head", "place"] (defScope s_cleared) :=
  ⟨rfl, rfl, rfl, by decide +kernel, rfl, by decide +kernel, by decide +kernel⟩
theorem ok_cleared (T : Txt K mg e) : FnG P w K mg base CX0 3 e.f_cleared e.d_cleared ["row", "head", "place"] (spD (tClr)) := by
  refine okD T.F_cleared sc_cleared (fun ds h Q z => by obtain ⟨r, hd, p, b, rfl, _⟩ := z; rfl) (fun cdv A outer s H E hG hr => ?_)
  refine ⟨_, (pss_cons (ps_setLc (i := 3) (own := [("one", 5), ("two", 6)]) (g := (gSeq K 2 (gCons (gName 5) (gCons (gName 6) gNil)))) (tt := tYes) rfl sc_cleared.nd rfl rfl (sw_true rfl rfl rfl (by decide +kernel)) (pi_zipG (K := K) rfl (by rfl) T.n_zip (pa_cons (pv 0) (pa_cons (pv 1) pa_nil))) (blkOk_by (own := [("one", 5), ("two", 6)]) (N := ["row", "head", "place", "mixed", "divisor", "one", "two", "number"]) (sc := defScope (top 5)) (by decide +kernel)) (fun _ _ _ _ _ => (pg_seqK (K := K) rfl rfl (pgs_cons (pg_name (i := 5) sc_cleared.nd rfl (by first | exact Or.inl rfl | exact Or.inr rfl)) (pgs_cons (pg_name (i := 6) sc_cleared.nd rfl (by first | exact Or.inl rfl | exact Or.inr rfl)) pgs_nil)))) (fun _ _ _ _ _ => pts_nil) (fun _ _ _ _ _ => (pe_op op_sub (pe_op (op_mulG (K := K) rfl) (pe_ix (ix_seqK (K := K) rfl) (pv 1) (pv 2) (fun _ _ => rfl)) (pv 5)) (pe_op (op_mulG (K := K) rfl) (pe_ix (ix_seqK (K := K) rfl) (pv 0) (pv 2) (fun _ _ => rfl)) (pv 6)))) (by intro _; rfl))
  (pss_cons (ps_set (i := 4) sc_cleared.nd rfl (by first | exact Or.inl rfl | exact Or.inr rfl) (pe_callG (ok_common T) hG (hr.mono (by first | decide | omega)) (by rfl) T.g_common T.F_common.kp T.b_common .nil pass0 (pa_cons (pv 3) pa_nil)))
  (pss_one (ps_ret (pe_ifExp (pt_cmpR op_gt (pv 4) pe_int (nomark _)) (pe_lc (own := [("number", 7)]) (g := (gName 7)) (tt := tYes) rfl sc_cleared.nd (pi_seqK (K := K) rfl (pv 3)) (blkOk_by (own := [("number", 7)]) (N := ["row", "head", "place", "mixed", "divisor", "one", "two", "number"]) (sc := defScope (top 5)) (by decide +kernel)) (fun _ _ _ _ _ => (pg_name (i := 7) sc_cleared.nd rfl (by first | exact Or.inl rfl | exact Or.inr rfl))) (fun _ _ _ _ _ => pts_nil) (fun _ _ _ _ _ => (pe_op op_fdivWN (pv 7) (pv 4)))) (pv 3)))))), ?_⟩
  intro ds h Q z
  try dsimp only [cxOf, Cx.nox, Cx.wish]
  obtain ⟨r, hd, p, b, rfl, hl, l1, hp, b4, br, bh, k⟩ := z
  have fr := ints_at hp
  have fh := ints_at (l := hd) (i := p) (by omega)
  walk_at "dd"
  refine i_zipLL ?_
  walk_at "dd"
  refine ⟨_, _, rfl, ?_⟩
  rw [ints_zip]
  refine lc_map (r.zip hd) (fun q => .tup [.int q.1, .int q.2]) (fun q => .int (at0 hd p * q.1 - at0 r p * q.2)) rfl (by rw [List.length_zip]; omega) .t ?_ (.f ?_)
  · intro pa acc i q np eq'
    obtain ⟨m1, m2⟩ := List.getElem?_zip_eq_some.mp eq'
    have c1 : CMulW (at0 hd p) q.1 := mulw (bh.at p) (br _ (List.mem_of_getElem? m1)) (by omega) (by omega)
    have c2 : CMulW (at0 r p) q.2 := mulw (br.at p) (bh _ (List.mem_of_getElem? m2)) (by omega) (by omega)
    walk_at "dd"
    rfl
  rw [ints_comb]
  have lR : (comb (at0 hd p) (at0 r p) r hd).length ≤ 100 := by rw [comb_len hl]; omega
  have bR : Bits (b + b + 1) (comb (at0 hd p) (at0 r p) r hd) := Bits.comb (bh.at p) (br.at p) br bh
  unfold clr at k
  generalize comb (at0 hd p) (at0 r p) r hd = U at lR bR k
  walk_at "dd"
  refine ⟨U, rfl, by omega, ?_⟩
  walk_at "dd"
  refine ite_b (fun h0 => ?_) (fun h0 => ?_)
  · have h0 : 0 < cm U := by
      have := of_decide_eq_true h0
      omega
    rw [if_pos h0] at k
    obtain ⟨x, hx, hn⟩ : ∃ x ∈ U, x ≠ 0 := by
      refine Classical.byContradiction fun c => ?_
      have := cm_zero (l := U) fun x hx => Classical.byContradiction fun n => c ⟨x, hx, n⟩
      omega
    have bx : cm U < 2 ^ (b + b + 1) := bits_cm hn (bR x hx) hx
    walk_at "dd"
    refine lc_map U D.int (fun x => .int (x.fdiv ((cm U : Nat) : Int))) rfl (by omega) .t ?_ (.f ?_)
    · intro pa acc i y np eq'
      walk_at "dd"
      refine v_Ii (cdiv_of (b := b + b + 1) (by omega) (by omega) (by omega)) ?_
      walk_at "dd"
      rfl
    rw [ints_div]
    walk_at "dd"
    exact frz0 k
  · have h0 : ¬ 0 < cm U := by
      have := of_decide_eq_false h0
      omega
    rw [if_neg h0] at k
    walk_at "dd"
    exact frz0 k
theorem eqv_ints : ∀ as bs : IL, PyData.eqv (toP (.lst (intsD as))) (toP (.lst (intsD bs))) = decide (as = bs) := by
  intro as
  induction as with
  | nil =>
    intro bs
    cases bs with
    | nil => rfl
    | cons b bs => simp [intsD, toP, toPs, PyData.eqv, PyData.eqvAll]
  | cons a as ih =>
    intro bs
    cases bs with
    | nil => simp [intsD, toP, toPs, PyData.eqv, PyData.eqvAll]
    | cons b bs =>
      have h := ih bs
      unfold intsD at h ⊢
      rw [toP, toP, PyData.eqv] at h
      rw [List.map_cons, List.map_cons, toP, toP, toPs, toPs, PyData.eqv, PyData.eqvAll, h, toP, toP, PyData.eqv]
      by_cases q1 : a = b
      · by_cases q2 : as = bs <;> simp [q1, q2]
      · simp [q1]
theorem ints_ok : ∀ l : IL, okPs (intsD l) = true ∧ PyData.canLayAll0 (toPs (intsD l)) = true ∧ PyData.depthAll (toPs (intsD l)) = 0
  | [] => ⟨rfl, rfl, rfl⟩
  | a :: l => by
    obtain ⟨h1, h2, h3⟩ := ints_ok l
    show okPs (D.int a :: intsD l) = true ∧ PyData.canLayAll0 (toPs (D.int a :: intsD l)) = true ∧ PyData.depthAll (toPs (D.int a :: intsD l)) = 0
    rw [okPs, toPs, PyData.canLayAll0, PyData.depthAll, h1, h2, h3]
    exact ⟨rfl, rfl, rfl⟩
theorem lsts_ok : ∀ S : List IL, okPs (S.map lstD) = true ∧ PyData.canLayAll0 (toPs (S.map lstD)) = true ∧ PyData.depthAll (toPs (S.map lstD)) ≤ 1
  | [] => ⟨rfl, rfl, Nat.zero_le _⟩
  | a :: S => by
    obtain ⟨h1, h2, h3⟩ := lsts_ok S
    obtain ⟨g1, g2, g3⟩ := ints_ok a
    rw [List.map_cons, okPs, toPs, PyData.canLayAll0, PyData.depthAll, h1, h2, show lstD a = .lst (intsD a) from rfl]
    rw [okP, toP, PyData.canLay0, PyData.depth, g1, g2, g3]
    exact ⟨rfl, rfl, by omega⟩
theorem lsts_cmp (S : List IL) : cmpOk (.lst (S.map lstD)) := by
  obtain ⟨h1, h2, h3⟩ := lsts_ok S
  refine ⟨by rw [okP]; exact h1, ?_⟩
  unfold SeqAt.shaped
  rw [toP, PyData.canLay0, PyData.depth, h2, decide_eq_true (by omega)]
  rfl
theorem ints_cmp (l : IL) : cmpOk (lstD l) := by
  obtain ⟨h1, h2, h3⟩ := ints_ok l
  refine ⟨by rw [lstD, okP]; exact h1, ?_⟩
  unfold SeqAt.shaped
  rw [lstD, toP, PyData.canLay0, PyData.depth, h2, h3]
  rfl
theorem lsts_nil (S : List IL) : PyData.eqv (toP (.lst (S.map lstD))) (toP (.lst [])) = S.isEmpty := by
  cases S with
  | nil => rfl
  | cons a S => rfl
def RowsV (f : IL → D) (A : List IL) (x : D) (w : Nat) : Prop := Sq0 x (A.map f) ∧ (∀ a, Sq0 (f a) (intsD a)) ∧ A.length ≤ 100 ∧ w ≤ 5 ∧ (∀ a ∈ A, a.length = w) ∧ ∀ a ∈ A, Bits 125 a
def tEch : TD := fun ds h Q => ∃ (x : D) (f : IL → D) (A : List IL) (w : Nat), ds = [x, .int (w : Int)] ∧ RowsV f A x w ∧ Q (.tup [.lst ((echA w A).map fun q => natD q.1), .lst ((echA w A).map fun q => vecD q.2)]) h
theorem sc_echelon : FnScope ["rows", "width", "left", "pivots", "found", "place", "some", "head", "row"] ["rows", "width"] (defScope s_echelon) :=
  ⟨rfl, rfl, rfl, by decide +kernel, rfl, by decide +kernel, by decide +kernel⟩
theorem ok_echelon (T : Txt K mg e) : FnG P w K mg base CX0 5 e.f_echelon e.d_echelon ["rows", "width"] (spD (tEch)) := by
  refine okD T.F_echelon sc_echelon (fun ds h Q z => by obtain ⟨x, f, A, w, rfl, _⟩ := z; rfl) (fun cdv A outer s H E hG hr => ?_)
  refine ⟨_, (pss_cons (ps_par3 (i := 2) (j := 3) (l := 4) (by rfl) sc_echelon.nd rfl rfl rfl (by decide) (by decide) (by decide) rfl rfl rfl (pa_cons (pe_lc (own := [("row", 8)]) (g := (gName 8)) (tt := tYes) rfl sc_echelon.nd (pi_seqK (K := K) rfl (pv 0)) (blkOk_by (own := [("row", 8)]) (N := ["rows", "width", "left", "pivots", "found", "place", "some", "head", "row"]) (sc := defScope (top 4)) (by decide +kernel)) (fun _ _ _ _ _ => (pg_name (i := 8) sc_echelon.nd rfl (by first | exact Or.inl rfl | exact Or.inr rfl))) (fun _ _ _ _ _ => pts_nil) (fun _ _ _ _ _ => (pe_callTy (call_listA (K := K) rfl rfl) (by rfl) T.n_list (by decide +kernel) (pa_cons (pv 8) pa_nil)))) (pa_cons (pe_lst pa_nil) (pa_cons (pe_lst pa_nil) pa_nil))) (by rfl))
  (pss_cons (ps_for PassesOwn.never rfl (pi_range1 (by rfl) T.n_range (pa_cons (pv 1) pa_nil)) (pg_name (i := 5) sc_echelon.nd rfl (by first | exact Or.inl rfl | exact Or.inr rfl))
    (pss_cons (ps_setLc (i := 6) (own := [("row", 8)]) (g := (gName 8)) rfl sc_echelon.nd rfl rfl (sw_true rfl rfl rfl (by decide +kernel)) (pi_seqK (K := K) rfl (pv 2)) (blkOk_by (own := [("row", 8)]) (N := ["rows", "width", "left", "pivots", "found", "place", "some", "head", "row"]) (sc := defScope (top 4)) (by decide +kernel)) (fun _ _ _ _ _ => (pg_name (i := 8) sc_echelon.nd rfl (by first | exact Or.inl rfl | exact Or.inr rfl))) (fun _ _ _ _ _ => pts_one (pt_cmpR (op_neG (K := K) rfl hr.units) (pe_ix (ix_seqK (K := K) rfl) (pv 8) (pv 5) (fun _ _ => rfl)) pe_int (nomark _))) (fun _ _ _ _ _ => (pv 8)) (by intro _; rfl))
      (pss_one (ps_if (pt_cmpR (op_neG (K := K) rfl hr.units) (pv 6) (pe_lst pa_nil) (nomark _))
        (pss_cons (ps_set (i := 7) sc_echelon.nd rfl (by first | exact Or.inl rfl | exact Or.inr rfl) (pe_ix (ix_seqK (K := K) rfl) (pv 6) pe_int (fun _ _ => rfl)))
          (pss_cons (ps_setLc (i := 2) (own := [("row", 8)]) (g := (gName 8)) rfl sc_echelon.nd rfl rfl (sw_true rfl rfl rfl (by decide +kernel)) (pi_seqK (K := K) rfl (pv 2)) (blkOk_by (own := [("row", 8)]) (N := ["rows", "width", "left", "pivots", "found", "place", "some", "head", "row"]) (sc := defScope (top 4)) (by decide +kernel)) (fun _ _ _ _ _ => (pg_name (i := 8) sc_echelon.nd rfl (by first | exact Or.inl rfl | exact Or.inr rfl))) (fun _ _ _ _ _ => pts_one (pt_cmpR (op_neG (K := K) rfl hr.units) (pv 8) (pv 7) (nomark _))) (fun _ _ _ _ _ => (pv 8)) (by intro _; rfl))
          (pss_cons (ps_setLc (i := 2) (own := [("row", 8)]) (g := (gName 8)) (tt := tYes) rfl sc_echelon.nd rfl rfl (sw_true rfl rfl rfl (by decide +kernel)) (pi_seqK (K := K) rfl (pv 2)) (blkOk_by (own := [("row", 8)]) (N := ["rows", "width", "left", "pivots", "found", "place", "some", "head", "row"]) (sc := defScope (top 4)) (by decide +kernel)) (fun _ _ _ _ _ => (pg_name (i := 8) sc_echelon.nd rfl (by first | exact Or.inl rfl | exact Or.inr rfl))) (fun _ _ _ _ _ => pts_nil) (fun _ _ _ _ _ => (pe_callG (ok_cleared T) hG (hr.mono (by first | decide | omega)) (by rfl) T.g_cleared T.F_cleared.kp T.b_cleared .nil pass0 (pa_cons (pv 8) (pa_cons (pv 7) (pa_cons (pv 5) pa_nil))))) (by intro _; rfl))
          (pss_cons (ps_setLc (i := 4) (own := [("row", 8)]) (g := (gName 8)) (tt := tYes) rfl sc_echelon.nd rfl rfl (sw_true rfl rfl rfl (by decide +kernel)) (pi_seqK (K := K) rfl (pv 4)) (blkOk_by (own := [("row", 8)]) (N := ["rows", "width", "left", "pivots", "found", "place", "some", "head", "row"]) (sc := defScope (top 4)) (by decide +kernel)) (fun _ _ _ _ _ => (pg_name (i := 8) sc_echelon.nd rfl (by first | exact Or.inl rfl | exact Or.inr rfl))) (fun _ _ _ _ _ => pts_nil) (fun _ _ _ _ _ => (pe_callG (ok_cleared T) hG (hr.mono (by first | decide | omega)) (by rfl) T.g_cleared T.F_cleared.kp T.b_cleared .nil pass0 (pa_cons (pv 8) (pa_cons (pv 7) (pa_cons (pv 5) pa_nil))))) (by intro _; rfl))
          (pss_cons (ps_expr (pe_bmK (K := K) rfl PySem.F.plainAttrs_list PySem.F.slot_list_append PySem.F.type_list_append mt_app (pv 4) (pa_cons (pe_callTy (call_listA (K := K) rfl rfl) (by rfl) T.n_list (by decide +kernel) (pa_cons (pe_callG (ok_primitive T) hG (hr.mono (by first | decide | omega)) (by rfl) T.g_primitive T.F_primitive.kp T.b_primitive .nil pass0 (pa_cons (pv 7) pa_nil)) pa_nil)) pa_nil)))
          (pss_one (ps_expr (pe_bmK (K := K) rfl PySem.F.plainAttrs_list PySem.F.slot_list_append PySem.F.type_list_append mt_app (pv 3) (pa_cons (pv 5) pa_nil)))))))))
        pss_nil))))
  (pss_one (ps_ret (pe_tup (pa_cons (pv 3) (pa_cons (pe_lc (own := [("row", 8)]) (g := (gName 8)) (tt := tYes) rfl sc_echelon.nd (pi_seqK (K := K) rfl (pv 4)) (blkOk_by (own := [("row", 8)]) (N := ["rows", "width", "left", "pivots", "found", "place", "some", "head", "row"]) (sc := defScope (top 4)) (by decide +kernel)) (fun _ _ _ _ _ => (pg_name (i := 8) sc_echelon.nd rfl (by first | exact Or.inl rfl | exact Or.inr rfl))) (fun _ _ _ _ _ => pts_nil) (fun _ _ _ _ _ => (pe_callG (ok_primitive T) hG (hr.mono (by first | decide | omega)) (by rfl) T.g_primitive T.F_primitive.kp T.b_primitive .nil pass0 (pa_cons (pv 8) pa_nil)))) pa_nil))))))), ?_⟩
  intro ds h Q z
  try dsimp only [cxOf, Cx.nox, Cx.wish]
  obtain ⟨x, f, A, w, rfl, ⟨sx, sf, lA, w5, hA, bA⟩, k⟩ := z
  walk_at "dd"
  refine d_par3 ?_
  walk_at "dd"
  refine x_seq0 sx ?_
  refine lc_map A f lstD rfl (by omega) .t ?_ (.f ?_)
  · intro pa acc i a np ea
    walk_at "dd"
    refine w_list (sf a).v (.f ?_)
    walk_at "dd"
    rfl
  walk_at "dd"
  refine d_lstC (d_nil ⟨by decide, fun pc npc => ?_⟩)
  walk_at "dd"
  refine d_lstC (d_nil ⟨by decide, fun fc nfc => ?_⟩)
  walk_at "dd"
  refine ⟨_, _, _, rfl, ?_⟩
  have pf : pc ≠ fc := h_ne seth_same nfc
  walk_at "dd"
  refine for_D [5, 6, 7, 8] (List.range w) natD (rngD_nat w) (fun i ρ h' => ∃ (st : List IL × List LRow) (g : Addr), ρ = [some x, some (.int (w : Int)), some (.lst (st.1.map lstD)), some (.ref pc), some (.ref g), none, none, none, none] ∧ h' = seth (seth h pc (.lst (st.2.map fun q => natD q.1))) g (.lst (st.2.map fun q => lstD q.2)) ∧ (seth h pc (.lst [])) g = none ∧ st = (List.range i).foldl echS (A, [])) ⟨(A, []), fc, rfl, rfl, nfc, rfl⟩ (fun _ _ _ _ _ => trivial) ?_ ?_
  · rintro i y ρ h' ei ⟨st, g, rfl, rfl, ng, es⟩
    have hi : i < w := by
      have := (List.getElem?_eq_some_iff.mp ei).1
      rwa [List.length_range] at this
    rw [List.getElem?_range hi] at ei
    cases ei
    have E := Ech.all hA bA i
    rw [← es] at E
    have es' : echS st i = (List.range (i + 1)).foldl echS (A, []) := by rw [List.range_succ, List.foldl_append, ← es]; rfl
    have pg : pc ≠ g := h_ne seth_same ng
    have ng0 : h g = none := by rwa [seth_ne (Ne.symm pg)] at ng
    have lL := E.fewL
    have lF := E.fewF
    have hc1 : (seth (seth h pc (.lst (st.2.map fun q => natD q.1))) g (.lst (st.2.map fun q => lstD q.2))) pc = some (.lst (st.2.map fun q => natD q.1)) := (seth_ne pg).trans seth_same
    walk_at "dd"
    refine lc_flt st.1 lstD (fun r => decide (at0 r i ≠ 0)) lstD rfl (by omega) .t ?_ (.f ?_)
    · intro p acc j r np er
      have rl := E.lL r (List.mem_of_getElem? er)
      have fr := ints_at (l := r) (i := i) (by omega)
      unfold lstD
      walk_at "dd"
      refine ⟨by simp, fun _ => ?_⟩
      walk_at "dd"
      first | done | rfl | exact ⟨rfl, rfl⟩
    walk_at "dd"
    refine d_lst ?_
    walk_at "dd"
    refine w_neD (lsts_cmp _) (FineA.nil (d := 0) (w := 0)).lst.cmp ?_
    rw [lsts_nil]
    walk_at "dd"
    unfold echS at es'
    cases hs : st.1.filter (fun r => decide (at0 r i ≠ 0)) with
    | nil =>
      rw [hs] at es'
      refine ite_f rfl ?_
      walk_at "dd"
      exact ⟨st, g, rfl, rfl, ng, es'⟩
    | cons hd tl =>
      rw [hs] at es'
      dsimp only at es'
      have hm : hd ∈ st.1.filter (fun r => decide (at0 r i ≠ 0)) := by rw [hs]; exact List.mem_cons_self ..
      have hm := (List.mem_filter.mp hm).1
      have lh := E.lL hd hm
      have bh := E.bL hd hm
      have eb5 : eB st.2.length ≤ 4000 := by
        have : 2 ^ st.2.length ≤ 2 ^ 4 := Nat.pow_le_pow_right (by decide) (by omega)
        unfold eB
        omega
      refine ite_t rfl ?_
      walk_at "dd"
      refine w_ixL .f (atI_eq (n := 0) rfl rfl) ?_
      walk_at "dd"
      refine lc_flt st.1 lstD (fun r => decide (r ≠ hd)) lstD rfl (by omega) .t ?_ (.f ?_)
      · intro p acc j r np er
        walk_at "dd"
        refine w_neD (ints_cmp r) (ints_cmp hd) ?_
        rw [show PyData.eqv (toP (lstD r)) (toP (lstD hd)) = decide (r = hd) from eqv_ints r hd]
        walk_at "dd"
        refine ⟨by simp, fun _ => ?_⟩
        walk_at "dd"
        first | done | rfl | exact ⟨rfl, rfl⟩
      have lL2 := List.length_filter_le (fun r => decide (r ≠ hd)) st.1
      have mL2 : ∀ r ∈ st.1.filter (fun r => decide (r ≠ hd)), r ∈ st.1 := fun r hr => (List.mem_filter.mp hr).1
      generalize st.1.filter (fun r => decide (r ≠ hd)) = L2 at lL2 mL2 es'
      walk_at "dd"
      refine lc_map L2 lstD (fun r => lstD (clr i hd r)) rfl (by omega) .t ?_ (.f ?_)
      · intro pa acc j r np er
        have rm := mL2 r (List.mem_of_getElem? er)
        walk_at "dd"
        refine ⟨r, hd, i, _, rfl, (E.lL r rm).trans lh.symm, by rw [E.lL r rm]; omega, by rw [E.lL r rm]; exact hi, eb5, E.bL r rm, bh, ?_⟩
        walk_at "dd"
        first | done | rfl | exact ⟨rfl, rfl⟩
      walk_at "dd"
      refine lc_map st.2 (fun q => lstD q.2) (fun q => lstD (clr i hd q.2)) rfl (by omega) (.c seth_same) ?_ (.c fun f2 nf2 => ?_)
      · intro pa acc j q np eq'
        have qm := List.mem_of_getElem? eq'
        walk_at "dd"
        refine ⟨q.2, hd, i, _, rfl, (E.lF q qm).trans lh.symm, by rw [E.lF q qm]; omega, by rw [E.lF q qm]; exact hi, eb5, E.bF q qm, bh, ?_⟩
        walk_at "dd"
        first | done | rfl | exact ⟨rfl, rfl⟩
      have gf : g ≠ f2 := h_ne seth_same nf2
      have pf2 : pc ≠ f2 := h_ne hc1 nf2
      have nf3 : h f2 = none := by rwa [seth_ne (Ne.symm gf), seth_ne (Ne.symm pf2)] at nf2
      refine ⟨_, g_name ?_⟩
      refine dS_del (f := g) ((seth_ne gf).trans seth_same) (fun _ z => (nomatch z)) (fun z => (nomatch z)) ?_
      rw [delh_comm (Ne.symm gf), delh_seth ((seth_ne (Ne.symm pg)).trans ng0)]
      have hpc : ∀ {o}, (seth (seth h pc (.lst (st.2.map fun q => natD q.1))) f2 o) pc = some (.lst (st.2.map fun q => natD q.1)) := (seth_ne pf2).trans seth_same
      have ll1 : (st.2.map fun q => lstD (clr i hd q.2)).length ≤ 1000 := by rw [List.length_map]; omega
      have ll2 : (st.2.map fun q => natD q.1).length ≤ 1000 := by rw [List.length_map]; omega
      walk_at "dd"
      refine ⟨hd, _, rfl, by omega, by omega, bh, ?_⟩
      walk_at "dd"
      refine ⟨(L2.map (clr i hd), st.2.map (fun q => (q.1, clr i hd q.2)) ++ [(i, prim hd)]), f2, ?_, ?_, (seth_ne (Ne.symm pf2)).trans nf3, es'⟩
      · simp only [wipeD, List.set_cons_zero, List.set_cons_succ, List.map_map]
        rfl
      · rw [seth_seth, seth_comm (Ne.symm pf2), seth_seth, List.map_append, List.map_append, List.map_map, List.map_map]
        rfl
  · rintro ρ h' ⟨st, g, rfl, rfl, ng, es⟩
    rw [List.length_range] at es
    have E := Ech.all hA bA w
    have ew : echA w A = st.2.map fun q => (q.1, prim q.2) := by rw [es]; rfl
    rw [← es] at E
    have pg : pc ≠ g := h_ne seth_same ng
    have ng0 : h g = none := by rwa [seth_ne (Ne.symm pg)] at ng
    have lF := E.fewF
    have eb5 : eB st.2.length < 9000 := by
      have : 2 ^ st.2.length ≤ 2 ^ 5 := Nat.pow_le_pow_right (by decide) (by omega)
      unfold eB
      omega
    refine dS_frz (i := 4) (x := .ref g) rfl (.lst seth_same .id) ?_
    rw [delh_seth ((seth_ne (Ne.symm pg)).trans ng0)]
    refine dS_frz (i := 3) (x := .ref pc) rfl (.lst seth_same .id) ?_
    rw [delh_seth npc]
    walk_at "dd"
    refine lc_map st.2 (fun q => lstD q.2) (fun q => vecD (prim q.2)) rfl (by omega) .t ?_ (.f ?_)
    · intro pa acc j q np eq'
      have qm := List.mem_of_getElem? eq'
      walk_at "dd"
      refine ⟨q.2, _, rfl, by rw [E.lF q qm]; omega, eb5, E.bF q qm, ?_⟩
      first | done | rfl | exact ⟨rfl, rfl⟩
    walk_at "dd"
    rw [ew, List.map_map, List.map_map] at k
    exact frz0 k
theorem prs_same {α : Type} (f g : α → D) : ∀ l : List α, prsD (l.map f) (l.map g) = l.map fun q => D.tup [f q, g q]
  | [] => rfl
  | a :: l => by
    have := prs_same f g l
    rw [List.map_cons, List.map_cons, List.map_cons, ← this]
    rfl
theorem ints_set (l : IL) (i : Nat) (x : Int) : (intsD l).set i (.int x) = intsD (l.set i x) := by unfold intsD; rw [List.map_set]
theorem vaF_len {place : Nat} {sc : Int} : ∀ (ld : List LRow) (v : IL), (ld.foldl (vaF place sc) v).length = v.length
  | [], v => rfl
  | q :: ld, v => by
    rw [List.foldl_cons, vaF_len ld]
    unfold vaF
    rw [List.length_set]
theorem ixNat {n i : Nat} (h : i < n) : ixN n (i : Int) = some i := by
  unfold ixN
  rw [if_pos (by omega), if_pos (by omega)]
  rfl
def tNull : TD := fun ds h Q => ∃ (x : D) (f : IL → D) (A : List IL) (w : Nat), ds = [x, .int (w : Int)] ∧ RowsV f A x w ∧ Fresh ((nulls w A).map vecD) h Q
theorem sc_null_rows : FnScope ["rows", "width", "pivots", "lead", "found", "place", "scale", "pivot", "row", "values", "divisor", "number"] ["rows", "width"] (defScope s_null_rows) :=
  ⟨rfl, rfl, rfl, by decide +kernel, rfl, by decide +kernel, by decide +kernel⟩
theorem ok_null_rows (T : Txt K mg e) : FnG P w K mg base CX0 6 e.f_null_rows e.d_null_rows ["rows", "width"] (spD (tNull)) := by
  refine okD T.F_null_rows sc_null_rows (fun ds h Q z => by obtain ⟨x, f, A, w, rfl, _⟩ := z; rfl) (fun cdv A outer s H E hG hr => ?_)
  refine ⟨_, (pss_cons (ps_asg (pe_callG (ok_echelon T) hG (hr.mono (by first | decide | omega)) (by rfl) T.g_echelon T.F_echelon.kp T.b_echelon .nil pass0 (pa_cons (pv 0) (pa_cons (pv 1) pa_nil))) (pg_seqK (K := K) rfl rfl (pgs_cons (pg_name (i := 2) sc_null_rows.nd rfl (by first | exact Or.inl rfl | exact Or.inr rfl)) (pgs_cons (pg_name (i := 3) sc_null_rows.nd rfl (by first | exact Or.inl rfl | exact Or.inr rfl)) pgs_nil))))
  (pss_cons (ps_set (i := 4) sc_null_rows.nd rfl (by first | exact Or.inl rfl | exact Or.inr rfl) (pe_lst pa_nil))
  (pss_cons (ps_for PassesOwn.never rfl (pi_range1 (by rfl) T.n_range (pa_cons (pv 1) pa_nil)) (pg_name (i := 5) sc_null_rows.nd rfl (by first | exact Or.inl rfl | exact Or.inr rfl))
    (pss_one (ps_if (pt_cmpR (op_ninG (K := K) rfl (units65 hr)) (pv 5) (pv 2) (by rfl))
        (pss_cons (ps_set (i := 6) sc_null_rows.nd rfl (by first | exact Or.inl rfl | exact Or.inr rfl) pe_int)
          (pss_cons (ps_for PassesOwn.never rfl (pi_zipG (K := K) rfl (by rfl) T.n_zip (pa_cons (pv 2) (pa_cons (pv 3) pa_nil))) (pg_seqK (K := K) rfl rfl (pgs_cons (pg_name (i := 7) sc_null_rows.nd rfl (by first | exact Or.inl rfl | exact Or.inr rfl)) (pgs_cons (pg_name (i := 8) sc_null_rows.nd rfl (by first | exact Or.inl rfl | exact Or.inr rfl)) pgs_nil)))
            (pss_one (ps_set (i := 6) sc_null_rows.nd rfl (by first | exact Or.inl rfl | exact Or.inr rfl) (pe_op op_fdivWN (pe_op (op_mulG (K := K) rfl) (pv 6) (pe_ix (ix_seqK (K := K) rfl) (pv 8) (pv 7) (fun _ _ => rfl))) (pe_callG (ok_gcd T) hG (hr.mono (by first | decide | omega)) (by rfl) T.g_gcd T.F_gcd.kp T.b_gcd .nil pass0 (pa_cons (pv 6) (pa_cons (pe_ix (ix_seqK (K := K) rfl) (pv 8) (pv 7) (fun _ _ => rfl)) pa_nil)))))))
          (pss_cons (ps_set (i := 9) sc_null_rows.nd rfl (by first | exact Or.inl rfl | exact Or.inr rfl) (pe_op (op_mulG (K := K) rfl) (pe_lst (pa_cons pe_int pa_nil)) (pv 1)))
          (pss_cons (ps_asg (pv 6) (pg_sub (pv 9) (pv 5) set_list))
          (pss_cons (ps_for PassesOwn.never rfl (pi_zipG (K := K) rfl (by rfl) T.n_zip (pa_cons (pv 2) (pa_cons (pv 3) pa_nil))) (pg_seqK (K := K) rfl rfl (pgs_cons (pg_name (i := 7) sc_null_rows.nd rfl (by first | exact Or.inl rfl | exact Or.inr rfl)) (pgs_cons (pg_name (i := 8) sc_null_rows.nd rfl (by first | exact Or.inl rfl | exact Or.inr rfl)) pgs_nil)))
            (pss_one (ps_asg (pe_op (op_mulG (K := K) rfl) (pe_un un_neg (pe_ix (ix_seqK (K := K) rfl) (pv 8) (pv 5) (fun _ _ => rfl))) (pe_op op_fdivWN (pv 6) (pe_ix (ix_seqK (K := K) rfl) (pv 8) (pv 7) (fun _ _ => rfl)))) (pg_sub (pv 9) (pv 7) set_list))))
          (pss_cons (ps_set (i := 10) sc_null_rows.nd rfl (by first | exact Or.inl rfl | exact Or.inr rfl) (pe_callG (ok_common T) hG (hr.mono (by first | decide | omega)) (by rfl) T.g_common T.F_common.kp T.b_common .nil pass0 (pa_cons (pv 9) pa_nil)))
          (pss_one (ps_expr (pe_bmK (K := K) rfl PySem.F.plainAttrs_list PySem.F.slot_list_append PySem.F.type_list_append mt_app (pv 4) (pa_cons (pe_callTy (call_tupleK (K := K) rfl) (by rfl) T.n_tuple (by decide +kernel) (pa_cons (pe_lc (own := [("number", 11)]) (g := (gName 11)) (tt := tYes) rfl sc_null_rows.nd (pi_seqK (K := K) rfl (pv 9)) (blkOk_by (own := [("number", 11)]) (N := ["rows", "width", "pivots", "lead", "found", "place", "scale", "pivot", "row", "values", "divisor", "number"]) (sc := defScope (top 6)) (by decide +kernel)) (fun _ _ _ _ _ => (pg_name (i := 11) sc_null_rows.nd rfl (by first | exact Or.inl rfl | exact Or.inr rfl))) (fun _ _ _ _ _ => pts_nil) (fun _ _ _ _ _ => (pe_op op_fdivWN (pv 11) (pv 10)))) pa_nil)) pa_nil))))))))))
        pss_nil)))
  (pss_one (ps_ret (pv 4)))))), ?_⟩
  intro ds h Q z
  try dsimp only [cxOf, Cx.nox, Cx.wish]
  obtain ⟨x, f, A, w, rfl, rv, k⟩ := z
  have L := lead_ok rv.2.2.2.2.1 rv.2.2.2.2.2
  have w5 := rv.2.2.2.1
  have few := L.few
  walk_at "dd"
  refine ⟨x, f, A, w, rfl, rv, ?_⟩
  unfold nulls at k
  generalize echA w A = ld at L few k
  walk_at "dd"
  refine d_lstC (d_nil ⟨by decide, fun fc nfc => ?_⟩)
  walk_at "dd"
  refine for_D [5, 6, 7, 8, 9, 10, 11] (List.range w) natD (rngD_nat w) (fun i ρ h' => ρ = [some x, some (.int (w : Int)), some (.lst (ld.map fun q => natD q.1)), some (.lst (ld.map fun q => vecD q.2)), some (.ref fc), none, none, none, none, none, none, none] ∧ h' = seth h fc (.lst (((List.range i).filter fun i => decide (i ∉ ld.map (·.1))).map fun p => vecD (nrow w p ld)))) ⟨rfl, rfl⟩ (fun _ _ _ _ _ => trivial) ?_ ?_
  · rintro i y ρ h' ei ⟨rfl, rfl⟩
    have hi : i < w := by
      have := (List.getElem?_eq_some_iff.mp ei).1
      rwa [List.length_range] at this
    rw [List.getElem?_range hi] at ei
    cases ei
    walk_at "dd"
    refine w_ninN (zs := ld.map (·.1)) (.inl (by rw [List.map_map]; exact .f)) ?_
    walk_at "dd"
    refine ite_b (fun hn => ?_) (fun hn => ?_)
    · have hn : i ∉ ld.map (·.1) := by simpa using hn
      obtain ⟨sb, vb, qb⟩ := L.vbits hi hn w5
      obtain ⟨b8, b8e, sb⟩ : ∃ b : Nat, b ≤ 8062 ∧ (scale ld).natAbs < 2 ^ b := ⟨_, Nat.le_refl _, sb⟩
      obtain ⟨b10, b10e, vb⟩ : ∃ b : Nat, b ≤ 10080 ∧ Bits b (vals w i ld) := ⟨_, Nat.le_refl _, vb⟩
      obtain ⟨b2, b2e, qb⟩ : ∃ b : Nat, b ≤ 2015 ∧ ∀ q ∈ ld, Bits b q.2 := ⟨_, Nat.le_refl _, qb⟩
      have V := L.vok hi hn
      have lw := L.fewer hi hn
      walk_at "dd"
      refine i_zipLL ?_
      walk_at "dd"
      refine ⟨_, _, rfl, ?_⟩
      rw [prs_same]
      refine for_P [7, 8] ld (fun q => .tup [natD q.1, vecD q.2]) rfl (fun pre ρ h' => ρ = [some x, some (.int (w : Int)), some (.lst (ld.map fun q => natD q.1)), some (.lst (ld.map fun q => vecD q.2)), some (.ref fc), some (natD i), some (.int (pre.foldl scF 1)), none, none, none, none, none] ∧ h' = seth h fc (.lst (((List.range i).filter fun i => decide (i ∉ ld.map (·.1))).map fun p => vecD (nrow w p ld)))) ⟨rfl, rfl⟩ (fun _ _ _ _ => trivial) ?_ ?_
      · rintro pre q post ρ h' el ⟨rfl, rfl⟩
        have qm : q ∈ ld := by rw [el]; exact List.mem_append_right _ (List.mem_cons_self ..)
        have lp : pre.length ≤ 3 := by
          have : ld.length = pre.length + (post.length + 1) := by rw [el, List.length_append, List.length_cons]
          omega
        have ps : ∀ q ∈ pre, 0 < at0 q.2 q.1 ∧ Bits b2 q.2 := fun q hq => ⟨(L.pos q (by rw [el]; exact List.mem_append_left _ hq)).1, qb q (by rw [el]; exact List.mem_append_left _ hq)⟩
        obtain ⟨s1, _, _⟩ := scale_ok pre 1 (by decide) fun q hq => (ps q hq).1
        have s2 := scale_bits pre 1 1 (by decide) (by decide) ps
        obtain ⟨b6, b6e, s3⟩ : ∃ b : Nat, b ≤ 6050 ∧ (pre.foldl scF 1).natAbs < 2 ^ b := ⟨1 + pre.length * b2, by
          have := Nat.mul_le_mul lp b2e
          omega, s2⟩
        clear s2
        have es : (pre ++ [q]).foldl scF 1 = (pre.foldl scF 1 * at0 q.2 q.1).fdiv ((Nat.gcd (pre.foldl scF 1).natAbs (at0 q.2 q.1).natAbs : Nat) : Int) := by rw [List.foldl_append]; rfl
        have fq := ints_at (l := q.2) (i := q.1) (by rw [L.len q qm]; exact L.lt q qm)
        have xq := (qb q qm).at q.1
        have xp := (L.pos q qm).1
        rw [es]
        clear es
        generalize pre.foldl scF 1 = sc at s1 s3
        generalize at0 q.2 q.1 = xx at fq xq xp
        have c1 : CMulW sc xx := mulw s3 xq (by omega) (by omega)
        have gp : 0 < Nat.gcd sc.natAbs xx.natAbs := Nat.gcd_pos_of_pos_right _ (by omega)
        have gl : Nat.gcd sc.natAbs xx.natAbs < 2 ^ b2 := Nat.lt_of_le_of_lt (Nat.gcd_le_right _ (by omega)) xq
        unfold vecD
        walk_at "dd"
        refine ⟨_, _, rfl, ?_⟩
        walk_at "dd"
        refine v_Ii (cdiv_of (b := b2) (by omega) (by omega) (by omega)) ?_
        walk_at "dd"
        exact ⟨rfl, rfl⟩
      · rintro ρ h' ⟨rfl, rfl⟩
        rw [show ld.foldl scF 1 = scale ld from rfl]
        walk_at "dd"
        refine d_lst ?_
        walk_at "dd"
        refine w_rep1 .f (by omega) (.c fun vc nvc => ?_)
        have fv := h_ne seth_same nvc
        have hlr : (List.replicate (w : Int).toNat (D.int 0)).length = w := by rw [List.length_replicate]; rfl
        walk_at "dd"
        refine ⟨vc, _, (i : Int), i, rfl, rfl, seth_same, ixNat (by rw [hlr]; exact hi), ?_⟩
        rw [seth_seth, show (List.replicate (w : Int).toNat (D.int 0)).set i (.int (scale ld)) = intsD ((List.replicate w 0).set i (scale ld)) from by rw [← ints_set, ← ints_rep]; rfl]
        walk_at "dd"
        refine i_zipLL ?_
        walk_at "dd"
        refine ⟨_, _, rfl, ?_⟩
        rw [prs_same]
        have dvs := L.sc.2
        have hV0 : ((List.replicate w (0 : Int)).set i (scale ld)).length = w := by rw [List.length_set, List.length_replicate]
        refine for_P [7, 8] ld (fun q => .tup [natD q.1, vecD q.2]) rfl (fun pre ρ h' => ρ = [some x, some (.int (w : Int)), some (.lst (ld.map fun q => natD q.1)), some (.lst (ld.map fun q => vecD q.2)), some (.ref fc), some (natD i), some (.int (scale ld)), none, none, some (.ref vc), none, none] ∧ h' = seth (seth h fc (.lst (((List.range i).filter fun i => decide (i ∉ ld.map (·.1))).map fun p => vecD (nrow w p ld)))) vc (.lst (intsD (pre.foldl (vaF i (scale ld)) ((List.replicate w 0).set i (scale ld)))))) ⟨rfl, rfl⟩ (fun _ _ _ _ => trivial) ?_ ?_
        · rintro pre q post ρ h' el ⟨rfl, rfl⟩
          have qm : q ∈ ld := by rw [el]; exact List.mem_append_right _ (List.mem_cons_self ..)
          have fq := ints_at (l := q.2) (i := q.1) (by rw [L.len q qm]; exact L.lt q qm)
          have fi := ints_at (l := q.2) (i := i) (by rw [L.len q qm]; exact hi)
          have xq := (qb q qm).at q.1
          have xi := (qb q qm).at i
          have xp := (L.pos q qm).1
          have lt := L.lt q qm
          have hd := natAbs_fdiv (dvs q qm) (by omega)
          have es : (pre ++ [q]).foldl (vaF i (scale ld)) ((List.replicate w 0).set i (scale ld)) = (pre.foldl (vaF i (scale ld)) ((List.replicate w 0).set i (scale ld))).set q.1 (-(at0 q.2 i) * (scale ld).fdiv (at0 q.2 q.1)) := by rw [List.foldl_append]; rfl
          have hl2 : (pre.foldl (vaF i (scale ld)) ((List.replicate w 0).set i (scale ld))).length = w := (vaF_len pre _).trans hV0
          rw [es]
          clear es
          generalize pre.foldl (vaF i (scale ld)) ((List.replicate w 0).set i (scale ld)) = V1 at hl2
          have c1 : CMulW (-(at0 q.2 i)) ((scale ld).fdiv (at0 q.2 q.1)) := mulw (a := b2) (b := b8) (by rw [Int.natAbs_neg]; exact xi) (by omega) (by omega) (by omega)
          unfold vecD
          walk_at "dd"
          refine v_Ii (cdiv_of (b := b2) (by omega) (by omega) (by omega)) ?_
          walk_at "dd"
          refine ⟨vc, _, (q.1 : Int), q.1, rfl, rfl, seth_same, ixNat (by rw [ints_len, hl2]; exact lt), ?_⟩
          rw [seth_seth, ints_set]
          walk_at "dd"
          exact ⟨rfl, rfl⟩
        · rintro ρ h' ⟨rfl, rfl⟩
          rw [show ld.foldl (vaF i (scale ld)) ((List.replicate w 0).set i (scale ld)) = vals w i ld from rfl]
          refine dS_frz (i := 9) (x := .ref vc) rfl (.lst seth_same .id) ?_
          rw [delh_seth nvc]
          have vl := V.len
          have cp : 0 < cm (vals w i ld) ∧ cm (vals w i ld) < 2 ^ b8 := by
            have hm : at0 (vals w i ld) i ∈ vals w i ld := at_mem (by rw [V.place]; have := L.sc.1; omega)
            have hne : at0 (vals w i ld) i ≠ 0 := by rw [V.place]; have := L.sc.1; omega
            exact ⟨cm_pos hm hne, bits_cm hne (by rw [V.place]; exact sb) hm⟩
          have fin : (((List.range (i + 1)).filter fun i => decide (i ∉ ld.map (·.1))).map fun p => vecD (nrow w p ld)) = (((List.range i).filter fun i => decide (i ∉ ld.map (·.1))).map fun p => vecD (nrow w p ld)) ++ [vecD (divL ((cm (vals w i ld) : Nat) : Int) (vals w i ld))] := by
            rw [List.range_succ, List.filter_append, List.filter_cons_of_pos (by simpa using hn), List.filter_nil, List.map_append]
            rfl
          rw [fin]
          clear fin
          generalize vals w i ld = V1 at vl cp vb V
          have few2 : (((List.range i).filter fun i => decide (i ∉ ld.map (·.1))).map fun p => vecD (nrow w p ld)).length ≤ 1000 := by
            rw [List.length_map]
            have := List.length_filter_le (fun i => decide (i ∉ ld.map (·.1))) (List.range i)
            rw [List.length_range] at this
            omega
          walk_at "dd"
          refine ⟨V1, rfl, by omega, ?_⟩
          walk_at "dd"
          refine lc_map V1 D.int (fun x => .int (x.fdiv ((cm V1 : Nat) : Int))) rfl (by omega) .t ?_ (.f ?_)
          · intro pa acc j y np eq'
            walk_at "dd"
            refine v_Ii (cdiv_of (b := b8) (by omega) (by omega) (by omega)) ?_
            walk_at "dd"
            rfl
          rw [ints_div]
          walk_at "dd"
          refine ⟨rfl, ?_⟩
          rw [seth_seth]
          rfl
    · have hn : i ∈ ld.map (·.1) := by simpa using hn
      walk_at "dd"
      refine ⟨rfl, ?_⟩
      rw [List.range_succ, List.filter_append, List.filter_cons_of_neg (by simpa using hn), List.filter_nil, List.append_nil]
  · rintro ρ h' ⟨rfl, rfl⟩
    walk_at "dd"
    rw [List.length_range]
    unfold frees at k
    rw [List.map_map] at k
    exact Fresh.frz k nfc
end

end Toy

set_option Elab.async false
set_option linter.all false
set_option maxRecDepth 100000
set_option maxHeartbeats 4000000
set_option pp.maxSteps 2500
set_option pp.deepTerms.threshold 12
namespace Toy
open PySem L2 GX PySem.Spec TL
/-! ### one step of a reading over data -/
local macro_rules | `(tactic| walk_at "d1") => `(tactic| with_reducible first
  | refine' d_seq ?_ | refine' d_asg ?_ | refine' d_retF ?_ | refine' d_retN ?_ | refine' d_drop ?_ | refine' d_next ?_ | refine' d_break ?_ | refine' d_cont ?_ | refine' d_ifS ?_ | refine' d_par ?_ | refine' d_pr ?_
  | refine' d_cInt ?_ | refine' d_cBl ?_ | refine' d_cStr ?_ | refine' d_cNon ?_ | refine' d_cRef ?_ | refine' v_isBl ?_ | refine' v_notBl ?_ | refine' d_joined ?_ | refine' d_jcons ?_ | refine' d_jnil ?_ | refine' d_op ?_ | refine' d_un ?_ | refine' d_test ?_ | refine' d_B ?_ | refine' d_bl ?_
  | refine' d_and ?_ | refine' d_or ?_ | refine' d_not ?_ | refine' d_yes ?_ | refine' d_if ?_ | refine' d_andV ?_ | refine' d_orV ?_ | refine' d_notV ?_ | refine' d_chain ?_
  | refine' d_nil ?_ | refine' d_cons ?_ | refine' d_CB ?_ | refine' d_tup ?_ | refine' d_call ?_ | refine' d_fld ?_ | refine' d_sfld ?_ | refine' d_meth ?_ | refine' d_make ?_
  | refine' d_din ?_ | refine' d_dnin ?_ | refine' d_dget ?_ | refine' d_dput ?_ | refine' d_dsetd ?_ | refine' d_for ?_ | refine' d_lc ?_
  | refine' i_seq ?_ | refine' i_list ?_ | refine' i_tup ?_ | refine' i_str ?_ | refine' i_rng1 ?_ | refine' i_rng2 ?_ | refine' i_rng3 ?_ | refine' i_zip ?_ | refine' i_enum ?_
  | refine' d_sl ?_ | refine' d_part ?_ | refine' d_nopart ?_ | refine' d_M1 ?_ | refine' d_M0 ?_ | refine' x_part ?_ | refine' x_strE ?_ | refine' x_seqF ?_ | refine' x_seqT ?_ | refine' x_lstF ?_ | refine' x_isLf ?_
  | refine' ⟨_, g_name ?_⟩ | refine' g_name ?_ | refine' g_nil ?_ | refine' g_cons ?_ | refine' ⟨_, g_sub ?_⟩ | refine' x_same ?_ | refine' d_BML rfl ?_ | refine' d_BML0 rfl ?_)
local macro_rules | `(tactic| walk_at "dv") => `(tactic| ((with_reducible refine' d_var ?hv ?_); (case hv => rfl)))
/-- a cell's content -/
local macro_rules | `(tactic| walk_at "hn") => `(tactic| first
  | assumption | exact Ne.symm (by assumption)
  | ((refine' h_ne ?ha ?hb); (case hb => assumption); (case ha => walk_at "hc"))
  | ((refine' Ne.symm (h_ne ?ha ?hb)); (case hb => assumption); (case ha => walk_at "hc")))
local macro_rules | `(tactic| walk_at "hc") => `(tactic| first
  | assumption | exact seth_same
  | ((refine' (seth_ne ?hn).trans ?hh); (case hn => walk_at "hn"); (case hh => walk_at "hc")))
/-- a sequence seen -/
local macro_rules | `(tactic| walk_at "sq") => `(tactic| first
  | exact LsV.f | exact SqV.l | exact SqV.t | assumption | exact Or.inl (by assumption) | ((refine' LsV.c ?e0); (case e0 => walk_at "hc")) | ((refine' SqV.c ?e0); (case e0 => walk_at "hc")) | assumption)
local macro_rules | `(tactic| walk_at "lk") => `(tactic| first | (with_reducible exact lk0) | exact lkN | (refine lkS (by decide +kernel) ?_; walk_at "lk"))
local macro_rules | `(tactic| walk_at "iv") => `(tactic| first | exact InsV.f | assumption | ((refine' InsV.c ?e0); (case e0 => walk_at "hc")))
local macro_rules | `(tactic| walk_at "dk") => `(tactic| first | exact DkV.f | assumption | ((refine' DkV.c ?e0); (case e0 => walk_at "hc")))
local macro_rules | `(tactic| walk_at "cls") => `(tactic| first | assumption)
local macro_rules | `(tactic| walk_at "he") => `(tactic| first | rfl | assumption | exact atI_nat (by assumption) | exact atI_eq (by assumption) (by omega))
local macro_rules | `(tactic| walk_at "hl") => `(tactic| first | assumption | (simp only [List.length_map, List.length_append, List.length_cons, List.length_nil, List.length_replicate, strLen_append]; omega) | omega | decide)
local macro_rules | `(tactic| walk_at "dx") => `(tactic| first
  | ((with_reducible refine' d_aug ?hv ?_); (case hv => rfl))
  | ((with_reducible refine' ⟨_, g_tup ?hl ?_⟩); (case hl => rfl))
  | ((with_reducible refine' g_tup ?hl ?_); (case hl => rfl))
  | ((with_reducible refine' ⟨_, g_seqT ?hl ?_⟩); (case hl => rfl))
  | ((with_reducible refine' g_seqT ?hl ?_); (case hl => rfl))
  | ((with_reducible refine' ⟨_, g_seqL ?hx ?hl ?_⟩); (case hx => walk_at "sq"); (case hl => rfl))
  | ((with_reducible refine' g_seqL ?hx ?hl ?_); (case hx => walk_at "sq"); (case hl => rfl))
  | ((with_reducible refine' g_nameV ?hm ?_); (case hm => simp))
  | (with_reducible refine' g_consV ?_)
  | (with_reducible refine' g_nilV ?_)
  | ((with_reducible refine' x_seqC ?hs ?_); (case hs => walk_at "hc"))
  | ((with_reducible refine' x_lstC ?hs ?_); (case hs => walk_at "hc"))
  | ((with_reducible refine' x_isL ?hs ?_); (case hs => walk_at "hc"))
  | ((with_reducible refine' x_size ?hs ?_); (case hs => walk_at "hl"))
  | ((with_reducible refine' x_rg1 ?hs ?_); (case hs => constructor <;> first | omega | (simp only [List.length_map]; omega)))
  | ((with_reducible refine' x_rg2 ?hs ?_); (case hs => refine ⟨?_, ?_, ?_, ?_⟩ <;> first | omega | (simp only [List.length_map]; omega)))
  | (with_reducible refine' w_addI ?_)
  | ((with_reducible refine' w_mulI ?hc ?_); (case hc => first | assumption | exact cmul_small (by constructor <;> omega) (by constructor <;> omega)))
  | (with_reducible refine' v_I0i ?_)
  | (with_reducible refine' v_I0b ?_)
  | (with_reducible refine' v_Ui ?_)
  | (with_reducible refine' w_eqI ?_)
  | (with_reducible refine' w_eqS ?_)
  | (with_reducible refine' w_eqB ?_)
  | (with_reducible refine' w_neI ?_)
  | (with_reducible refine' w_neS ?_)
  | (with_reducible refine' w_neB ?_)
  | (with_reducible refine' v_isN ?_)
  | (with_reducible refine' v_notN ?_)
  | (with_reducible refine' w_inSign ?_)
  | ((with_reducible refine' w_inS ?hs ?_); (case hs => walk_at "sq"))
  | ((with_reducible refine' w_ninS ?hs ?_); (case hs => walk_at "sq"))
  | ((with_reducible refine' w_inI ?hs ?_); (case hs => walk_at "sq"))
  | ((with_reducible refine' w_ninI ?hs ?_); (case hs => walk_at "sq"))
  | ((with_reducible refine' w_addS ?hl ?_); (case hl => walk_at "hl"))
  | ((with_reducible refine' w_catT ?hl ?_); (case hl => walk_at "hl"))
  | ((with_reducible refine' w_slS ?hl ?_); (case hl => walk_at "hl"))
  | (with_reducible refine' w_slT ?_)
  | ((with_reducible refine' w_slL ?hs (.f ?_)); (case hs => walk_at "sq"))
  | ((with_reducible refine' w_lenS ?hl ?_); (case hl => walk_at "hl"))
  | ((with_reducible refine' w_len ?hs ?_); (case hs => walk_at "sq"))
  | ((with_reducible refine' w_lenD ?hs ?_); (case hs => walk_at "dk"))
  | ((with_reducible refine' v_tupOf ?hs ?_); (case hs => walk_at "sq"))
  | ((with_reducible refine' w_list ?hs (.f ?_)); (case hs => walk_at "sq"))
  | ((with_reducible refine' v_sum ?hs ?_); (case hs => walk_at "sq"))
  | ((with_reducible refine' v_all ?hs ?_); (case hs => walk_at "sq"))
  | ((with_reducible refine' v_any ?hs ?_); (case hs => walk_at "sq"))
  | (with_reducible refine' v_max2 ?_)
  | (with_reducible refine' v_min2 ?_)
  | (with_reducible refine' v_int1 ?_)
  | (with_reducible refine' v_int1b ?_)
  | (with_reducible refine' v_abs ?_)
  | ((with_reducible refine' w_ixT ?he ?_); (case he => walk_at "he"))
  | ((with_reducible refine' w_ixL ?hs ?he ?_); (case hs => walk_at "sq"); (case he => walk_at "he"))
  | ((with_reducible refine' v_app ?hs ?hl ?_); (case hs => walk_at "hc"); (case hl => walk_at "hl"))
  | ((with_reducible refine' v_insert ?hs ?hl ?h0 ?_); (case hs => walk_at "hc"); (case hl => walk_at "hl"); (case h0 => constructor <;> omega))
  | ((with_reducible refine' x_fldV ?hi ?hc ?hn ?hl ?_); (case hi => walk_at "iv"); (case hc => walk_at "cls"); (case hn => walk_at "cls"); (case hl => walk_at "lk"))
  | ((with_reducible refine' x_methV ?hi ?hl ?_); (case hi => walk_at "iv"); (case hl => walk_at "lk"))
  | ((with_reducible refine' x_sfldC ?hs ?hc ?hn ?hl ?_); (case hs => walk_at "hc"); (case hc => walk_at "cls"); (case hn => walk_at "cls"); (case hl => first | simp | (refine Nat.lt_of_le_of_lt putFD_len ?_; simp) | (refine Nat.lt_of_le_of_lt putFD_len (Nat.lt_of_le_of_lt (Nat.succ_le_succ putFD_len) ?_); simp)))
  | ((with_reducible refine' x_inS ?hs ?_); (case hs => walk_at "dk"))
  | ((with_reducible refine' x_inI ?hs ?_); (case hs => walk_at "dk"))
  | ((with_reducible refine' x_getS ?hs ?he ?_); (case hs => walk_at "dk"); (case he => assumption))
  | ((with_reducible refine' x_getI ?hs ?he ?_); (case hs => walk_at "dk"); (case he => assumption))
  | ((with_reducible refine' x_putS ?hs ?hl ?_); (case hs => walk_at "hc"); (case hl => walk_at "hl"))
  | ((with_reducible refine' x_putI ?hs ?hl ?_); (case hs => walk_at "hc"); (case hl => walk_at "hl"))
  | ((with_reducible refine' x_isK ?hs ?_); (case hs => walk_at "dk"))
  | ((with_reducible refine' x_isDV ?hs ?_); (case hs => walk_at "dk")))
/-- fields and dicts read, nothing made -/
local macro_rules | `(tactic| walk_at "dy") => `(tactic| first
  | ((with_reducible refine' x_fldV ?hi ?hc ?hn ?hl ?_); (case hi => walk_at "iv"); (case hc => walk_at "cls"); (case hn => walk_at "cls"); (case hl => walk_at "lk"))
  | ((with_reducible refine' x_methV ?hi ?hl ?_); (case hi => walk_at "iv"); (case hl => walk_at "lk"))
  | ((with_reducible refine' x_getS ?hs ?he ?_); (case hs => walk_at "dk"); (case he => assumption)))
local macro_rules | `(tactic| walk_at "de") => `(tactic| repeat' (first | walk_at "d1" | walk_at "dv" | walk_at "dy"))
local macro_rules | `(tactic| walk_at "dd") => `(tactic| repeat' (first | walk_at "d1" | walk_at "dv" | walk_at "dx"))

/-! ### the law's own elimination -/
section
variable {P : Program} {w : World} {K : PySem.W.Frag} {mg : Str → Option Value} {base : Heap} {e : Env}
def lrowD (q : LRow) : D := .tup [.int (q.1 : Int), .lst (intsD q.2)]
/-- rows of the law's basis: their places are there, their sizes -/
structure BasOk (w : Nat) (bs : List LRow) : Prop where
  few : bs.length ≤ 5
  row : ∀ (j : Nat) q, bs[j]? = some q → q.1 < w ∧ q.2.length = w ∧ Bits (cB j) q.2
def tLLow : TD := fun ds h Q => ∃ (w : Nat) (v : IL) (bs : List LRow) (x y : D) (Sd : Hs → Prop), ds = [x, y] ∧ SqI h y (bs.map lrowD) Sd ∧ Sd h ∧ BasOk w bs ∧ v.length = w ∧ w ≤ 6 ∧ Bits 145 v ∧ SqV h x (intsD v) ∧ Q (.lst (intsD (lowL bs v))) h
theorem stepL_ok {x j w : Nat} {u : IL} {q : LRow} (bu : Bits x u) (lu : u.length = w) (h : q.1 < w ∧ q.2.length = w ∧ Bits (cB j) q.2) : (stepL u q).length = w ∧ Bits (x + cB j + 1) (stepL u q) := by
  unfold stepL
  split
  · exact ⟨lu, bu.up (by omega)⟩
  · have hl : u.length = q.2.length := by rw [lu, h.2.1]
    have bU : Bits (x + cB j + 1) (comb (at0 q.2 q.1) (at0 u q.1) u q.2) := Bits.comb (h.2.2.at q.1) (bu.at q.1) bu h.2.2
    generalize hU : comb (at0 q.2 q.1) (at0 u q.1) u q.2 = U at bU
    have ep : (max ((cm U : Nat) : Int) 1) ≠ 0 := by omega
    have eU : ∀ y ∈ U, (max ((cm U : Nat) : Int) 1) ∣ y := fun y hy => by
      by_cases h0 : cm U = 0
      · rw [show max ((cm U : Nat) : Int) 1 = 1 from by omega]
        exact Int.one_dvd y
      · rw [show max ((cm U : Nat) : Int) 1 = ((cm U : Nat) : Int) from by omega]
        exact cm_dvd hy
    exact ⟨by rw [divL_len, ← hU, comb_len hl, lu], bU.div eU ep⟩
theorem cm_lt {b : Nat} {l : IL} (h : Bits b l) (hb : 0 < b) : (max ((cm l : Nat) : Int) 1).natAbs < 2 ^ b := by
  have one : 1 < 2 ^ b := Nat.one_lt_two_pow (by omega)
  by_cases z : ∀ x ∈ l, x = 0
  · rw [cm_zero z]
    exact one
  · have ⟨x, hx, hn⟩ : ∃ x ∈ l, x ≠ 0 := by
      refine Classical.byContradiction fun c => z fun x hx => ?_
      exact Classical.byContradiction fun n => c ⟨x, hx, n⟩
    have := bits_cm hn (h x hx) hx
    have := cm_pos hx hn
    omega
theorem sc__law_lowered : FnScope ["_law_row_here", "_law_basis_here", "_law_left", "_law_pivot", "_law_head", "_law_take", "_law_scale", "_law_divisor", "_law_one", "_law_two", "_law_number"] ["_law_row_here", "_law_basis_here"] (defScope s__law_lowered) :=
  ⟨rfl, rfl, rfl, by decide +kernel, rfl, by decide +kernel, by decide +kernel⟩
theorem ok__law_lowered (T : Txt K mg e) : FnG P w K mg base CX0 3 e.f__law_lowered e.d__law_lowered ["_law_row_here", "_law_basis_here"] (spD (tLLow)) := by
  refine okD T.F__law_lowered sc__law_lowered (fun ds h Q z => by obtain ⟨w, v, bs, x, y, Sd, rfl, _⟩ := z; rfl) (fun cdv A outer s H E hG hr => ?_)
  refine ⟨_, (pss_cons (ps_set (i := 2) sc__law_lowered.nd rfl (by first | exact Or.inl rfl | exact Or.inr rfl) (pe_callTy (call_listA (K := K) rfl rfl) (by rfl) T.n_list (by decide +kernel) (pa_cons (pv 0) pa_nil)))
  (pss_cons (ps_for PassesOwn.never rfl (pi_seqK (K := K) rfl (pv 1)) (pg_seqK (K := K) rfl rfl (pgs_cons (pg_name (i := 3) sc__law_lowered.nd rfl (by first | exact Or.inl rfl | exact Or.inr rfl)) (pgs_cons (pg_name (i := 4) sc__law_lowered.nd rfl (by first | exact Or.inl rfl | exact Or.inr rfl)) pgs_nil)))
    (pss_one (ps_if (pt_cmpR (op_neG (K := K) rfl hr.units) (pe_ix (ix_seqK (K := K) rfl) (pv 2) (pv 3) (fun _ _ => rfl)) pe_int (nomark _))
        (pss_cons (ps_asg (pe_tup (pa_cons (pe_ix (ix_seqK (K := K) rfl) (pv 2) (pv 3) (fun _ _ => rfl)) (pa_cons (pe_ix (ix_seqK (K := K) rfl) (pv 4) (pv 3) (fun _ _ => rfl)) pa_nil))) (pg_seqK (K := K) rfl rfl (pgs_cons (pg_name (i := 5) sc__law_lowered.nd rfl (by first | exact Or.inl rfl | exact Or.inr rfl)) (pgs_cons (pg_name (i := 6) sc__law_lowered.nd rfl (by first | exact Or.inl rfl | exact Or.inr rfl)) pgs_nil))))
          (pss_cons (ps_setLc (i := 2) (own := [("_law_one", 8), ("_law_two", 9)]) (g := (gSeq K 2 (gCons (gName 8) (gCons (gName 9) gNil)))) (tt := tYes) rfl sc__law_lowered.nd rfl rfl (sw_true rfl rfl rfl (by decide +kernel)) (pi_zipG (K := K) rfl (by rfl) T.n_zip (pa_cons (pv 2) (pa_cons (pv 4) pa_nil))) (blkOk_by (own := [("_law_one", 8), ("_law_two", 9)]) (N := ["_law_row_here", "_law_basis_here", "_law_left", "_law_pivot", "_law_head", "_law_take", "_law_scale", "_law_divisor", "_law_one", "_law_two", "_law_number"]) (sc := defScope (top 14)) (by decide +kernel)) (fun _ _ _ _ _ => (pg_seqK (K := K) rfl rfl (pgs_cons (pg_name (i := 8) sc__law_lowered.nd rfl (by first | exact Or.inl rfl | exact Or.inr rfl)) (pgs_cons (pg_name (i := 9) sc__law_lowered.nd rfl (by first | exact Or.inl rfl | exact Or.inr rfl)) pgs_nil)))) (fun _ _ _ _ _ => pts_nil) (fun _ _ _ _ _ => (pe_op op_sub (pe_op (op_mulG (K := K) rfl) (pv 6) (pv 8)) (pe_op (op_mulG (K := K) rfl) (pv 5) (pv 9)))) (by intro _; rfl))
          (pss_cons (ps_set (i := 7) sc__law_lowered.nd rfl (by first | exact Or.inl rfl | exact Or.inr rfl) (pe_callB (call_max2 rfl) (by rfl) T.n_max (by decide +kernel) (pa_cons (pe_callG (ok__law_common T) hG (hr.mono (by first | decide | omega)) (by rfl) T.g__law_common T.F__law_common.kp T.b__law_common .nil pass0 (pa_cons (pv 2) pa_nil)) (pa_cons pe_int pa_nil))))
          (pss_one (ps_setLc (i := 2) (own := [("_law_number", 10)]) (g := (gName 10)) (tt := tYes) rfl sc__law_lowered.nd rfl rfl (sw_true rfl rfl rfl (by decide +kernel)) (pi_seqK (K := K) rfl (pv 2)) (blkOk_by (own := [("_law_number", 10)]) (N := ["_law_row_here", "_law_basis_here", "_law_left", "_law_pivot", "_law_head", "_law_take", "_law_scale", "_law_divisor", "_law_one", "_law_two", "_law_number"]) (sc := defScope (top 14)) (by decide +kernel)) (fun _ _ _ _ _ => (pg_name (i := 10) sc__law_lowered.nd rfl (by first | exact Or.inl rfl | exact Or.inr rfl))) (fun _ _ _ _ _ => pts_nil) (fun _ _ _ _ _ => (pe_op op_fdivWN (pv 10) (pv 7))) (by intro _; rfl))))))
        pss_nil)))
  (pss_one (ps_ret (pv 2))))), ?_⟩
  intro ds h Q z
  try dsimp only [cxOf, Cx.nox, Cx.wish]
  obtain ⟨w, v, bs, x, y, Sd, rfl, sy, hsd, ok, hv, w5, bv, sx, k⟩ := z
  have few := ok.few
  walk_at "dd"
  refine ⟨_, Sd, sy, ?_⟩
  refine for_P [3, 4, 5, 6, 7, 8, 9, 10] bs lrowD rfl (fun pre ρ h' => ∃ u : IL, ρ = [some x, some y, some (.lst (intsD u)), none, none, none, none, none, none, none, none] ∧ h' = h ∧ u = pre.foldl stepL v ∧ u.length = w ∧ Bits (xB pre.length) u) ⟨v, rfl, rfl, rfl, hv, bv⟩ (fun _ _ _ z => by obtain ⟨_, _, rfl, _⟩ := z; exact hsd) ?_ ?_
  · rintro pre q post ρ h' el ⟨u, rfl, rfl, eu, lu, bu⟩
    have hn : pre.length < bs.length := by rw [el, List.length_append, List.length_cons]; omega
    have e0 : bs[pre.length]? = some q := by rw [el, List.getElem?_append_right (Nat.le_refl _), Nat.sub_self]; rfl
    have R := ok.row _ _ e0
    have xb := xB_le (show pre.length ≤ 5 by omega)
    have cb := cB_le (show pre.length ≤ 5 by omega)
    have nx := stepL_ok bu lu R
    rw [xB_succ] at nx
    have x6 := xB_le (show pre.length + 1 ≤ 5 by omega)
    obtain ⟨p, row⟩ := q
    obtain ⟨pw, lrow, brow⟩ := R
    dsimp only at pw lrow brow
    have fr := ints_at (l := u) (i := p) (by omega)
    have frow := ints_at (l := row) (i := p) (by omega)
    have fin : (pre ++ [(p, row)]).length = pre.length + 1 := by rw [List.length_append]; rfl
    walk_at "dd"
    refine ite_b (fun hc => ?_) (fun hc => ?_)
    · have hc : at0 u p ≠ 0 := by simpa using hc
      walk_at "dd"
      refine i_zipLL ?_
      walk_at "dd"
      refine ⟨_, _, rfl, ?_⟩
      rw [ints_zip]
      refine lc_map (u.zip row) (fun q => .tup [.int q.1, .int q.2]) (fun q => .int (at0 row p * q.1 - at0 u p * q.2)) rfl (by rw [List.length_zip]; omega) .t ?_ (.f ?_)
      · intro pa acc i q np eq'
        obtain ⟨m1, m2⟩ := List.getElem?_zip_eq_some.mp eq'
        have c1 : CMulW (at0 row p) q.1 := mulw (brow.at p) (bu _ (List.mem_of_getElem? m1)) (by omega) (by omega)
        have c2 : CMulW (at0 u p) q.2 := mulw (bu.at p) (brow _ (List.mem_of_getElem? m2)) (by omega) (by omega)
        walk_at "dd"
        rfl
      rw [ints_comb]
      have lR1 : (comb (at0 row p) (at0 u p) u row).length ≤ 6 := by rw [comb_len (by omega)]; omega
      have bR1 : Bits (xB (pre.length + 1)) (comb (at0 row p) (at0 u p) u row) := by rw [← xB_succ]; exact Bits.comb (brow.at p) (bu.at p) bu brow
      have st : stepL u (p, row) = divL (max ((cm (comb (at0 row p) (at0 u p) u row) : Nat) : Int) 1) (comb (at0 row p) (at0 u p) u row) := by unfold stepL; rw [if_neg hc]
      rw [st] at nx
      generalize comb (at0 row p) (at0 u p) u row = R1 at lR1 bR1 st nx
      have dn : max ((cm R1 : Nat) : Int) 1 ≠ 0 := by omega
      have db := cm_lt bR1 (by unfold xB; omega)
      walk_at "dd"
      refine ⟨_, R1, rfl, .inr rfl, by omega, ?_⟩
      walk_at "dd"
      rw [show (if (1 : Int) > ((cm R1 : Nat) : Int) then (1 : Int) else ((cm R1 : Nat) : Int)) = max ((cm R1 : Nat) : Int) 1 from by split <;> omega]
      generalize max ((cm R1 : Nat) : Int) 1 = dd at dn db st nx
      refine lc_map R1 D.int (fun x => .int (x.fdiv dd)) rfl (by omega) .t ?_ (.f ?_)
      · intro pa acc i q np eq'
        walk_at "dd"
        refine v_Ii (cdiv_of dn db (by omega)) ?_
        walk_at "dd"
        rfl
      rw [ints_div]
      walk_at "dd"
      refine ⟨divL dd R1, by simp only [wipeD, List.set_cons_zero, List.set_cons_succ], rfl, ?_, nx.1, by rw [fin]; exact nx.2⟩
      rw [List.foldl_append, ← eu]
      exact st.symm
    · have hc : at0 u p = 0 := by simpa using hc
      walk_at "dd"
      have st : stepL u (p, row) = u := by unfold stepL; rw [if_pos hc]
      rw [st] at nx
      refine ⟨u, rfl, rfl, ?_, nx.1, by rw [fin]; exact nx.2⟩
      rw [List.foldl_append, ← eu]
      exact st.symm
  · rintro ρ h' ⟨u, rfl, rfl, eu, lu, bu⟩
    walk_at "dd"
    rw [eu]
    exact frz0 k
theorem lowL_ok {w : Nat} {bs : List LRow} {v : IL} (ok : BasOk w bs) (hv : v.length = w) (bv : Bits 145 v) : ∀ n, n ≤ bs.length → ((bs.take n).foldl stepL v).length = w ∧ Bits (xB n) ((bs.take n).foldl stepL v)
  | 0, _ => by
    rw [List.take_zero]
    exact ⟨hv, bv⟩
  | n + 1, h => by
    have ih := lowL_ok ok hv bv n (by omega)
    have eq := List.getElem?_eq_getElem (show n < bs.length by omega)
    rw [List.take_succ, eq]
    show (List.foldl stepL v (bs.take n ++ [bs[n]])).length = w ∧ Bits _ (List.foldl stepL v (bs.take n ++ [bs[n]]))
    rw [List.foldl_append, ← xB_succ]
    exact stepL_ok ih.2 ih.1 (ok.row n _ eq)
theorem lowL_all {w : Nat} {bs : List LRow} {v : IL} (ok : BasOk w bs) (hv : v.length = w) (bv : Bits 145 v) : (lowL bs v).length = w := by
  have := (lowL_ok ok hv bv bs.length (Nat.le_refl _)).1
  rwa [List.take_length] at this
/-- each part of the rows gives a basis -/
structure PrefOk (w : Nat) (S : List IL) : Prop where
  bas : ∀ n, n ≤ S.length → BasOk w (basisL (S.take n))
  len : ∀ s ∈ S, s.length = w
  bits : ∀ s ∈ S, Bits 145 s
def tLBasis : TD := fun ds h Q => ∃ (w : Nat) (S : List IL), ds = [.lst (S.map vecD)] ∧ PrefOk w S ∧ w ≤ 6 ∧ S.length ≤ 100 ∧ Q (.lst ((basisL S).map lrowD)) h
theorem sc__law_basis : FnScope ["_law_rows", "_law_basis_here", "_law_row_here", "_law_left", "_law_places", "_law_at"] ["_law_rows"] (defScope s__law_basis) :=
  ⟨rfl, rfl, rfl, by decide +kernel, rfl, by decide +kernel, by decide +kernel⟩
theorem ok__law_basis (T : Txt K mg e) : FnG P w K mg base CX0 4 e.f__law_basis e.d__law_basis ["_law_rows"] (spD (tLBasis)) := by
  refine okD T.F__law_basis sc__law_basis (fun ds h Q z => by obtain ⟨w, S, rfl, _⟩ := z; rfl) (fun cdv A outer s H E hG hr => ?_)
  refine ⟨_, (pss_cons (ps_set (i := 1) sc__law_basis.nd rfl (by first | exact Or.inl rfl | exact Or.inr rfl) (pe_lst pa_nil))
  (pss_cons (ps_for PassesOwn.never rfl (pi_seqK (K := K) rfl (pv 0)) (pg_name (i := 2) sc__law_basis.nd rfl (by first | exact Or.inl rfl | exact Or.inr rfl))
    (pss_cons (ps_set (i := 3) sc__law_basis.nd rfl (by first | exact Or.inl rfl | exact Or.inr rfl) (pe_callG (ok__law_lowered T) hG (hr.mono (by first | decide | omega)) (by rfl) T.g__law_lowered T.F__law_lowered.kp T.b__law_lowered .nil pass0 (pa_cons (pv 2) (pa_cons (pv 1) pa_nil))))
      (pss_cons (ps_setLc (i := 4) (own := [("_law_at", 5)]) (g := (gName 5)) rfl sc__law_basis.nd rfl rfl (sw_true rfl rfl rfl (by decide +kernel)) (pi_range1 (by rfl) T.n_range (pa_cons (pe_callB (call_lenA (K := K) rfl) (by rfl) T.n_len (by decide +kernel) (pa_cons (pv 3) pa_nil)) pa_nil)) (blkOk_by (own := [("_law_at", 5)]) (N := ["_law_rows", "_law_basis_here", "_law_row_here", "_law_left", "_law_places", "_law_at"]) (sc := defScope (top 15)) (by decide +kernel)) (fun _ _ _ _ _ => (pg_name (i := 5) sc__law_basis.nd rfl (by first | exact Or.inl rfl | exact Or.inr rfl))) (fun _ _ _ _ _ => pts_one (pt_cmpR (op_neG (K := K) rfl hr.units) (pe_ix (ix_seqK (K := K) rfl) (pv 3) (pv 5) (fun _ _ => rfl)) pe_int (nomark _))) (fun _ _ _ _ _ => (pv 5)) (by intro _; rfl))
      (pss_one (ps_if (pt_cmpR (op_neG (K := K) rfl hr.units) (pv 4) (pe_lst pa_nil) (nomark _))
        (pss_one (ps_expr (pe_bmK (K := K) rfl PySem.F.plainAttrs_list PySem.F.slot_list_append PySem.F.type_list_append mt_app (pv 1) (pa_cons (pe_tup (pa_cons (pe_ix (ix_seqK (K := K) rfl) (pv 4) pe_int (fun _ _ => rfl)) (pa_cons (pv 3) pa_nil))) pa_nil))))
        pss_nil)))))
  (pss_one (ps_ret (pv 1))))), ?_⟩
  intro ds h Q z
  try dsimp only [cxOf, Cx.nox, Cx.wish]
  obtain ⟨w, S, rfl, ok, w5, hS, k⟩ := z
  walk_at "dd"
  refine d_lstC (d_nil ⟨by decide, fun f nf => ?_⟩)
  walk_at "dd"
  refine for_P [2, 3, 4, 5] S vecD rfl (fun pre ρ h' => ρ = [some (.lst (S.map vecD)), some (.ref f), none, none, none, none] ∧ h' = seth h f (.lst ((basisL pre).map lrowD))) ⟨rfl, rfl⟩ (fun _ _ _ _ => trivial) ?_ ?_
  · rintro pre v post ρ h' el ⟨rfl, rfl⟩
    have vm : v ∈ S := by rw [el]; exact List.mem_append_right _ (List.mem_cons_self ..)
    have hv := ok.len v vm
    have bv := ok.bits v vm
    have B := ok.bas pre.length (by rw [el, List.length_append]; omega)
    rw [show S.take pre.length = pre from by rw [el, List.take_left']; rfl] at B
    have few := B.few
    walk_at "dd"
    refine ⟨w, v, basisL pre, _, _, _, rfl, .c seth_same, seth_same, B, hv, w5, bv, .inr rfl, ?_⟩
    have lu : (lowL (basisL pre) v).length ≤ 6 := by rw [lowL_all B hv bv]; omega
    have eb := basisL_snoc pre v
    unfold addL at eb
    generalize lowL (basisL pre) v = u at lu eb
    walk_at "dd"
    refine ⟨_, rfl, ⟨by omega, by rw [ints_len]; omega⟩, ?_⟩
    rw [ints_len]
    refine lc_flt (List.range u.length) natD (fun i => decide (at0 u i ≠ 0)) natD (by first | exact rngD_nat _ | exact rngD_n _) (by rw [List.length_range]; omega) .t ?_ (.f ?_)
    · intro p acc i z np ez
      have hz : z < u.length := List.mem_range.mp (List.mem_of_getElem? ez)
      have fz := ints_at hz
      walk_at "dd"
      refine ⟨by simp, fun _ => ?_⟩
      walk_at "dd"
      first | done | rfl | exact ⟨rfl, rfl⟩
    rw [show (List.range u.length).filter (fun i => decide (at0 u i ≠ 0)) = piv u from rfl]
    have fin : FineA 0 ((piv u).length * 41) ((piv u).map natD) := Fine.nats fun z hz => by have := (piv_mem.mp hz).1; omega
    walk_at "dd"
    refine d_lst ?_
    walk_at "dd"
    refine w_neD fin.lst.cmp (FineA.nil (d := 0) (w := 0)).lst.cmp ?_
    cases hp : piv u with
    | nil =>
      rw [hp] at eb
      rw [show PyData.eqv (toP (.lst (([] : List Nat).map natD))) (toP (.lst [])) = true from rfl]
      walk_at "dd"
      refine ite_f rfl ?_
      walk_at "dd"
      exact ⟨rfl, by rw [eb]⟩
    | cons p ps =>
      rw [hp] at eb
      rw [show PyData.eqv (toP (.lst ((p :: ps).map natD))) (toP (.lst [])) = false from rfl]
      walk_at "dd"
      refine ite_t rfl ?_
      walk_at "dd"
      refine w_ixL .f (atI_eq (n := 0) rfl rfl) ?_
      walk_at "dd"
      exact ⟨rfl, by rw [seth_seth, eb, List.map_append]; rfl⟩
  · rintro ρ h' ⟨rfl, rfl⟩
    refine dS_frz (i := 1) (x := .ref f) rfl (.lst seth_same .id) ?_
    rw [delh_seth nf]
    walk_at "dd"
    exact frz0 k
def tDepends : TD := fun ds h Q => ∃ (w : Nat) (S : List IL) (v : IL) (x : D), ds = [x, .lst (S.map vecD)] ∧ PrefOk w S ∧ w ≤ 6 ∧ S.length ≤ 100 ∧ v.length = w ∧ Bits 145 v ∧ SqV h x (intsD v) ∧ Q (.bl (piv (lowL (basisL S) v)).isEmpty) h
theorem sc__law_depends : FnScope ["_law_row_here", "_law_rows", "_law_number"] ["_law_row_here", "_law_rows"] (defScope s__law_depends) :=
  ⟨rfl, rfl, rfl, by decide +kernel, rfl, by decide +kernel, by decide +kernel⟩
theorem ok__law_depends (T : Txt K mg e) : FnG P w K mg base CX0 6 e.f__law_depends e.d__law_depends ["_law_row_here", "_law_rows"] (spD (tDepends)) := by
  refine okD T.F__law_depends sc__law_depends (fun ds h Q z => by obtain ⟨w, S, v, x, rfl, _⟩ := z; rfl) (fun cdv A outer s H E hG hr => ?_)
  refine ⟨_, (pss_one (ps_ret (pe_not (pe_callB (cr_anyK (K := K) rfl rfl) (by rfl) T.n_any (by decide +kernel) (pa_cons (pe_lc (own := [("_law_number", 2)]) (g := (gName 2)) (tt := tYes) rfl sc__law_depends.nd (pi_seqK (K := K) rfl (pe_callG (ok__law_lowered T) hG (hr.mono (by first | decide | omega)) (by rfl) T.g__law_lowered T.F__law_lowered.kp T.b__law_lowered .nil pass0 (pa_cons (pv 0) (pa_cons (pe_callG (ok__law_basis T) hG (hr.mono (by first | decide | omega)) (by rfl) T.g__law_basis T.F__law_basis.kp T.b__law_basis .nil pass0 (pa_cons (pv 1) pa_nil)) pa_nil)))) (blkOk_by (own := [("_law_number", 2)]) (N := ["_law_row_here", "_law_rows", "_law_number"]) (sc := defScope (top 16)) (by decide +kernel)) (fun _ _ _ _ _ => (pg_name (i := 2) sc__law_depends.nd rfl (by first | exact Or.inl rfl | exact Or.inr rfl))) (fun _ _ _ _ _ => pts_nil) (fun _ _ _ _ _ => (pe_cmpR (op_neG (K := K) rfl hr.units) (pv 2) pe_int (nomark _)))) pa_nil))))), ?_⟩
  intro ds h Q z
  try dsimp only [cxOf, Cx.nox, Cx.wish]
  obtain ⟨w, S, v, x, rfl, ok, w5, hS, hv, bv, sx, k⟩ := z
  have B := ok.bas S.length (Nat.le_refl _)
  rw [List.take_length] at B
  have lu := lowL_all B hv bv
  walk_at "dd"
  refine ⟨w, S, rfl, ok, w5, hS, ?_⟩
  walk_at "dd"
  refine ⟨w, v, basisL S, _, _, _, rfl, .f, trivial, B, hv, w5, bv, sx, ?_⟩
  generalize lowL (basisL S) v = u at lu k
  walk_at "dd"
  refine lc_map u D.int (fun x => .bl (!decide (x = 0))) rfl (by omega) .t ?_ (.f ?_)
  · intro p acc i z np ez
    walk_at "dd"
    rfl
  walk_at "dd"
  refine v_any (bs := u.map fun x => !decide (x = 0)) (by rw [List.map_map]; exact .f) ?_
  rw [any_piv]
  walk_at "dd"
  rw [Bool.not_not]
  exact frz0 k
end

end Toy

set_option Elab.async false
set_option linter.all false
set_option maxRecDepth 100000
set_option maxHeartbeats 4000000
/-! ### zip of two tuples -/
namespace GX
open PySem L2 PySem.Spec PyProof.Rows
section
variable {ρ : Rho} {h : Hs} {K : PySem.W.Frag} {R : List D → (Hs → Prop) → Hs → Prop} {Sd : Hs → Prop}
theorem it_tzip {H : Hp} {p q : Addr} {xs ys : List D} (w1 : ∀ h' H', RelH h' H' → StI Sd h H h' H' → ∃ vs, H' p = some (.tup vs) ∧ DxA (Fz h' H') vs xs)
    (w2 : ∀ h' H', RelH h' H' → StI Sd h H h' H' → ∃ vs, H' q = some (.tup vs) ∧ DxA (Fz h' H') vs ys) : ItOk (RZ.ItzT K p q) (prsD xs ys) (StI Sd h H) := by
  refine ⟨fun H' => ∃ vs us, H' p = some (.tup vs) ∧ H' q = some (.tup us) ∧ vs.length = xs.length ∧ us.length = ys.length, fun i H1 x H2 => ∃ T v u vs us, x = .ref T ∧ H1 T = none ∧ H2 = upd H1 T (.tup [v, u]) ∧ H1 p = some (.tup vs) ∧ H1 q = some (.tup us) ∧ vs[i]? = some v ∧ us[i]? = some u, ⟨?_, ?_, ?_⟩, ?_, ?_⟩
  · rintro i H1 hi ⟨vs, us, e1, e2, l1, l2⟩
    rw [prsD_len] at hi
    exact ⟨vs, us, vs[i]'(by omega), us[i]'(by omega), .of e1, .of e2, List.getElem?_eq_getElem _, List.getElem?_eq_getElem _⟩
  · rintro H1 ⟨vs, us, e1, e2, l1, l2⟩
    refine ⟨vs, us, .of e1, .of e2, ?_⟩
    rw [prsD_len]
    omega
  · rintro i H1 x H2 hi ⟨vs, us, e1, e2, l1, l2⟩ y
    obtain ⟨T, v, u, h1, h2, h3, h4, h5⟩ := y
    exact ⟨T, v, u, vs, us, h1, h2, h3, e1, e2, h4 vs (.of e1), h5 us (.of e2)⟩
  · intro h' H' r s
    obtain ⟨vs, e, a⟩ := w1 h' H' r s
    obtain ⟨us, e2, a2⟩ := w2 h' H' r s
    exact ⟨vs, us, e, e2, a.len, a2.len⟩
  · rintro i h' H1 x H2 r s ⟨T, v, u, vs, us, rfl, nT, rfl, e1, e2, hv, hu⟩
    obtain ⟨vs', e1', a1⟩ := w1 h' _ r s
    obtain ⟨us', e2', a2⟩ := w2 h' _ r s
    rw [e1] at e1'
    rw [e2] at e2'
    cases e1'
    cases e2'
    obtain ⟨d1, ed1, dx1⟩ := a1.getV hv
    obtain ⟨d2, ed2, dx2⟩ := a2.getV hu
    obtain ⟨dp, rp, sp⟩ := pair_new r nT dx1 dx2
    exact ⟨_, prsD_get ed1 ed2, dp, rp, sp⟩
theorem i_zipTT {a : TA} (z : dA a ρ h fun xs h1 => ∃ ds es, xs = [.tup ds, .tup es] ∧ R (prsD ds es) (fun _ => True) h1) : dI (iZipG K a) ρ h R := fun σ H R' rl p =>
  z σ H _ rl fun xs h1 vs H1 ⟨ds, es, ex, q⟩ dx rh s => by
    subst ex
    cases dx with
    | cons d1 d2 =>
      cases d2 with
      | cons d2 d3 =>
        cases d3
        cases d1 with
        | @tup b vs1 _ e1 a1 =>
          cases d2 with
          | @tup c vs2 _ e2 a2 =>
            exact ⟨b, c, vs1, vs2, rfl, .inr (.inl ⟨.of (fz_some e1).2, .of (fz_some e2).2, p _ (fun _ => True) _ h1 H1 q rh s (it_tzip (fun h' H' r' k => ⟨vs1, (fz_some (k.2 _ _ e1)).2, a1.mono k.2⟩) (fun h' H' r' k => ⟨vs2, (fz_some (k.2 _ _ e2)).2, a2.mono k.2⟩))⟩)⟩
end
end GX

set_option Elab.async false
set_option linter.all false
set_option maxRecDepth 100000
set_option maxHeartbeats 4000000
/-! ### zip, !=, == of lists that may be cells -/
namespace GX
open PySem L2 PySem.Spec
section
variable {ρ : Rho} {h : Hs} {Q : QD} {K : PySem.W.Frag} {R : List D → (Hs → Prop) → Hs → Prop} {x y : D} {xs : List D}
theorem i_zipI {a : TA} (z : dA a ρ h fun xs h1 => ∃ x y ds es Sd Se, xs = [x, y] ∧ LsI h1 x ds Sd ∧ LsI h1 y es Se ∧ R (prsD ds es) (fun h => Sd h ∧ Se h) h1) : dI (iZipG K a) ρ h R := fun σ H R' rl p =>
  z σ H _ rl fun xs h1 vs H1 ⟨x, y, ds, es, Sd, Se, ex, i1, i2, q⟩ dx rh s => by
    subst ex
    cases dx with
    | cons d1 d2 =>
      cases d2 with
      | cons d2 d3 =>
        cases d3
        obtain ⟨b, rfl, w1⟩ := i1.at rh d1
        obtain ⟨c, rfl, w2⟩ := i2.at rh d2
        obtain ⟨vs1, e1, _⟩ := w1 h1 H1 rh ⟨i1.now, Same.refl _⟩
        obtain ⟨vs2, e2, _⟩ := w2 h1 H1 rh ⟨i2.now, Same.refl _⟩
        exact ⟨b, c, vs1, vs2, rfl, .inl ⟨.of e1, .of e2, p _ _ _ h1 H1 q rh s (it_zip (fun h' H' r' k => w1 h' H' r' ⟨k.1.1, k.2⟩) (fun h' H' r' k => w2 h' H' r' ⟨k.1.2, k.2⟩))⟩⟩
theorem v_neC (hv : LsV h x xs) (o1 : cmpOk (.lst xs)) (o2 : cmpOk y) (q : Q (.bl (!PyData.eqv (toP (.lst xs)) (toP y))) h) : dR2 (rNeD K) x y h Q := fun v w H Q' r dx dy p => by
  obtain ⟨a, vs, rfl, e, d⟩ := hv.at r dx
  have o := o1.1
  rw [okP] at o
  exact ⟨toP (.lst xs), _, .lst (.of e) (dps_of o d), dp_of o2.1 dy, o1.2, o2.2, post_id p r (.bl _) q⟩
theorem w_neC (hv : LsV h x xs) (o1 : cmpOk (.lst xs)) (o2 : cmpOk y) (q : Q (.bl (!PyData.eqv (toP (.lst xs)) (toP y))) h) : dR2 (rNeG K) x y h Q := dR2.ir (v_neC hv o1 o2 q)
end
end GX

set_option Elab.async false
set_option linter.all false
set_option maxRecDepth 100000
set_option maxHeartbeats 4000000
set_option pp.maxSteps 2500
set_option pp.deepTerms.threshold 12
namespace Toy
open PySem L2 GX PySem.Spec TL
/-! ### one step of a reading over data -/
local macro_rules | `(tactic| walk_at "d1") => `(tactic| with_reducible first
  | refine' d_seq ?_ | refine' d_asg ?_ | refine' d_retF ?_ | refine' d_retN ?_ | refine' d_drop ?_ | refine' d_next ?_ | refine' d_break ?_ | refine' d_cont ?_ | refine' d_ifS ?_ | refine' d_par ?_ | refine' d_pr ?_
  | refine' d_cInt ?_ | refine' d_cBl ?_ | refine' d_cStr ?_ | refine' d_cNon ?_ | refine' d_cRef ?_ | refine' v_isBl ?_ | refine' v_notBl ?_ | refine' d_joined ?_ | refine' d_jcons ?_ | refine' d_jnil ?_ | refine' d_op ?_ | refine' d_un ?_ | refine' d_test ?_ | refine' d_B ?_ | refine' d_bl ?_
  | refine' d_and ?_ | refine' d_or ?_ | refine' d_not ?_ | refine' d_yes ?_ | refine' d_if ?_ | refine' d_andV ?_ | refine' d_orV ?_ | refine' d_notV ?_ | refine' d_chain ?_
  | refine' d_nil ?_ | refine' d_cons ?_ | refine' d_CB ?_ | refine' d_tup ?_ | refine' d_call ?_ | refine' d_fld ?_ | refine' d_sfld ?_ | refine' d_meth ?_ | refine' d_make ?_
  | refine' d_din ?_ | refine' d_dnin ?_ | refine' d_dget ?_ | refine' d_dput ?_ | refine' d_dsetd ?_ | refine' d_for ?_ | refine' d_lc ?_
  | refine' i_seq ?_ | refine' i_list ?_ | refine' i_tup ?_ | refine' i_str ?_ | refine' i_rng1 ?_ | refine' i_rng2 ?_ | refine' i_rng3 ?_ | refine' i_zip ?_ | refine' i_enum ?_
  | refine' d_sl ?_ | refine' d_part ?_ | refine' d_nopart ?_ | refine' d_M1 ?_ | refine' d_M0 ?_ | refine' x_part ?_ | refine' x_strE ?_ | refine' x_seqF ?_ | refine' x_seqT ?_ | refine' x_lstF ?_ | refine' x_isLf ?_
  | refine' ⟨_, g_name ?_⟩ | refine' g_name ?_ | refine' g_nil ?_ | refine' g_cons ?_ | refine' ⟨_, g_sub ?_⟩ | refine' x_same ?_ | refine' d_BML rfl ?_ | refine' d_BML0 rfl ?_)
local macro_rules | `(tactic| walk_at "dv") => `(tactic| ((with_reducible refine' d_var ?hv ?_); (case hv => rfl)))
/-- a cell's content -/
local macro_rules | `(tactic| walk_at "hn") => `(tactic| first
  | assumption | exact Ne.symm (by assumption)
  | ((refine' h_ne ?ha ?hb); (case hb => assumption); (case ha => walk_at "hc"))
  | ((refine' Ne.symm (h_ne ?ha ?hb)); (case hb => assumption); (case ha => walk_at "hc")))
local macro_rules | `(tactic| walk_at "hc") => `(tactic| first
  | assumption | exact seth_same
  | ((refine' (seth_ne ?hn).trans ?hh); (case hn => walk_at "hn"); (case hh => walk_at "hc")))
/-- a sequence seen -/
local macro_rules | `(tactic| walk_at "sq") => `(tactic| first
  | exact LsV.f | exact SqV.l | exact SqV.t | assumption | exact Or.inl (by assumption) | ((refine' LsV.c ?e0); (case e0 => walk_at "hc")) | ((refine' SqV.c ?e0); (case e0 => walk_at "hc")) | assumption)
local macro_rules | `(tactic| walk_at "lk") => `(tactic| first | (with_reducible exact lk0) | exact lkN | (refine lkS (by decide +kernel) ?_; walk_at "lk"))
local macro_rules | `(tactic| walk_at "iv") => `(tactic| first | exact InsV.f | assumption | ((refine' InsV.c ?e0); (case e0 => walk_at "hc")))
local macro_rules | `(tactic| walk_at "dk") => `(tactic| first | exact DkV.f | assumption | ((refine' DkV.c ?e0); (case e0 => walk_at "hc")))
local macro_rules | `(tactic| walk_at "cls") => `(tactic| first | assumption)
local macro_rules | `(tactic| walk_at "he") => `(tactic| first | rfl | assumption | exact atI_nat (by assumption) | exact atI_eq (by assumption) (by omega))
local macro_rules | `(tactic| walk_at "hl") => `(tactic| first | assumption | (simp only [List.length_map, List.length_append, List.length_cons, List.length_nil, List.length_replicate, strLen_append]; omega) | omega | decide)
local macro_rules | `(tactic| walk_at "dx") => `(tactic| first
  | ((with_reducible refine' d_aug ?hv ?_); (case hv => rfl))
  | ((with_reducible refine' ⟨_, g_tup ?hl ?_⟩); (case hl => rfl))
  | ((with_reducible refine' g_tup ?hl ?_); (case hl => rfl))
  | ((with_reducible refine' ⟨_, g_seqT ?hl ?_⟩); (case hl => rfl))
  | ((with_reducible refine' g_seqT ?hl ?_); (case hl => rfl))
  | ((with_reducible refine' ⟨_, g_seqL ?hx ?hl ?_⟩); (case hx => walk_at "sq"); (case hl => rfl))
  | ((with_reducible refine' g_seqL ?hx ?hl ?_); (case hx => walk_at "sq"); (case hl => rfl))
  | ((with_reducible refine' g_nameV ?hm ?_); (case hm => simp))
  | (with_reducible refine' g_consV ?_)
  | (with_reducible refine' g_nilV ?_)
  | ((with_reducible refine' x_seqC ?hs ?_); (case hs => walk_at "hc"))
  | ((with_reducible refine' x_lstC ?hs ?_); (case hs => walk_at "hc"))
  | ((with_reducible refine' x_isL ?hs ?_); (case hs => walk_at "hc"))
  | ((with_reducible refine' x_size ?hs ?_); (case hs => walk_at "hl"))
  | ((with_reducible refine' x_rg1 ?hs ?_); (case hs => constructor <;> first | omega | (simp only [List.length_map]; omega)))
  | ((with_reducible refine' x_rg2 ?hs ?_); (case hs => refine ⟨?_, ?_, ?_, ?_⟩ <;> first | omega | (simp only [List.length_map]; omega)))
  | (with_reducible refine' w_addI ?_)
  | ((with_reducible refine' w_mulI ?hc ?_); (case hc => first | assumption | exact cmul_small (by constructor <;> omega) (by constructor <;> omega)))
  | (with_reducible refine' v_I0i ?_)
  | (with_reducible refine' v_I0b ?_)
  | (with_reducible refine' v_Ui ?_)
  | (with_reducible refine' w_eqI ?_)
  | (with_reducible refine' w_eqS ?_)
  | (with_reducible refine' w_eqB ?_)
  | (with_reducible refine' w_neI ?_)
  | (with_reducible refine' w_neS ?_)
  | (with_reducible refine' w_neB ?_)
  | (with_reducible refine' v_isN ?_)
  | (with_reducible refine' v_notN ?_)
  | (with_reducible refine' w_inSign ?_)
  | ((with_reducible refine' w_inS ?hs ?_); (case hs => walk_at "sq"))
  | ((with_reducible refine' w_ninS ?hs ?_); (case hs => walk_at "sq"))
  | ((with_reducible refine' w_inI ?hs ?_); (case hs => walk_at "sq"))
  | ((with_reducible refine' w_ninI ?hs ?_); (case hs => walk_at "sq"))
  | ((with_reducible refine' w_addS ?hl ?_); (case hl => walk_at "hl"))
  | ((with_reducible refine' w_catT ?hl ?_); (case hl => walk_at "hl"))
  | ((with_reducible refine' w_slS ?hl ?_); (case hl => walk_at "hl"))
  | (with_reducible refine' w_slT ?_)
  | ((with_reducible refine' w_slL ?hs (.f ?_)); (case hs => walk_at "sq"))
  | ((with_reducible refine' w_lenS ?hl ?_); (case hl => walk_at "hl"))
  | ((with_reducible refine' w_len ?hs ?_); (case hs => walk_at "sq"))
  | ((with_reducible refine' w_lenD ?hs ?_); (case hs => walk_at "dk"))
  | ((with_reducible refine' v_tupOf ?hs ?_); (case hs => walk_at "sq"))
  | ((with_reducible refine' w_list ?hs (.f ?_)); (case hs => walk_at "sq"))
  | ((with_reducible refine' v_sum ?hs ?_); (case hs => walk_at "sq"))
  | ((with_reducible refine' v_all ?hs ?_); (case hs => walk_at "sq"))
  | ((with_reducible refine' v_any ?hs ?_); (case hs => walk_at "sq"))
  | (with_reducible refine' v_max2 ?_)
  | (with_reducible refine' v_min2 ?_)
  | (with_reducible refine' v_int1 ?_)
  | (with_reducible refine' v_int1b ?_)
  | (with_reducible refine' v_abs ?_)
  | ((with_reducible refine' w_ixT ?he ?_); (case he => walk_at "he"))
  | ((with_reducible refine' w_ixL ?hs ?he ?_); (case hs => walk_at "sq"); (case he => walk_at "he"))
  | ((with_reducible refine' v_app ?hs ?hl ?_); (case hs => walk_at "hc"); (case hl => walk_at "hl"))
  | ((with_reducible refine' v_insert ?hs ?hl ?h0 ?_); (case hs => walk_at "hc"); (case hl => walk_at "hl"); (case h0 => constructor <;> omega))
  | ((with_reducible refine' x_fldV ?hi ?hc ?hn ?hl ?_); (case hi => walk_at "iv"); (case hc => walk_at "cls"); (case hn => walk_at "cls"); (case hl => walk_at "lk"))
  | ((with_reducible refine' x_methV ?hi ?hl ?_); (case hi => walk_at "iv"); (case hl => walk_at "lk"))
  | ((with_reducible refine' x_sfldC ?hs ?hc ?hn ?hl ?_); (case hs => walk_at "hc"); (case hc => walk_at "cls"); (case hn => walk_at "cls"); (case hl => first | simp | (refine Nat.lt_of_le_of_lt putFD_len ?_; simp) | (refine Nat.lt_of_le_of_lt putFD_len (Nat.lt_of_le_of_lt (Nat.succ_le_succ putFD_len) ?_); simp)))
  | ((with_reducible refine' x_inS ?hs ?_); (case hs => walk_at "dk"))
  | ((with_reducible refine' x_inI ?hs ?_); (case hs => walk_at "dk"))
  | ((with_reducible refine' x_getS ?hs ?he ?_); (case hs => walk_at "dk"); (case he => assumption))
  | ((with_reducible refine' x_getI ?hs ?he ?_); (case hs => walk_at "dk"); (case he => assumption))
  | ((with_reducible refine' x_putS ?hs ?hl ?_); (case hs => walk_at "hc"); (case hl => walk_at "hl"))
  | ((with_reducible refine' x_putI ?hs ?hl ?_); (case hs => walk_at "hc"); (case hl => walk_at "hl"))
  | ((with_reducible refine' x_isK ?hs ?_); (case hs => walk_at "dk"))
  | ((with_reducible refine' x_isDV ?hs ?_); (case hs => walk_at "dk")))
/-- fields and dicts read, nothing made -/
local macro_rules | `(tactic| walk_at "dy") => `(tactic| first
  | ((with_reducible refine' x_fldV ?hi ?hc ?hn ?hl ?_); (case hi => walk_at "iv"); (case hc => walk_at "cls"); (case hn => walk_at "cls"); (case hl => walk_at "lk"))
  | ((with_reducible refine' x_methV ?hi ?hl ?_); (case hi => walk_at "iv"); (case hl => walk_at "lk"))
  | ((with_reducible refine' x_getS ?hs ?he ?_); (case hs => walk_at "dk"); (case he => assumption)))
local macro_rules | `(tactic| walk_at "de") => `(tactic| repeat' (first | walk_at "d1" | walk_at "dv" | walk_at "dy"))
local macro_rules | `(tactic| walk_at "dd") => `(tactic| repeat' (first | walk_at "d1" | walk_at "dv" | walk_at "dx"))

/-! ### one of some -/
section
variable {P : Program} {w : World} {K : PySem.W.Frag} {mg : Str → Option Value} {base : Heap} {e : Env}
def tOf : TD := fun ds h Q => ∃ (a la : Addr) (x : D) (xs : List D), ds = [.ref a, x] ∧ h a = some (.src la) ∧ LsV h x xs ∧ xs ≠ [] ∧ xs.length < 100000 ∧ ∀ y ∈ xs, Q y h
theorem sc__law_of : FnScope ["_law_src", "_law_some"] ["_law_src", "_law_some"] (defScope s__law_of) :=
  ⟨rfl, rfl, rfl, by decide +kernel, rfl, by decide +kernel, by decide +kernel⟩
theorem ok__law_of (T : Txt K mg e) : FnG P w K mg base CX0 2 e.f__law_of e.d__law_of ["_law_src", "_law_some"] (spD (tOf)) := by
  refine okD T.F__law_of sc__law_of (fun ds h Q z => by obtain ⟨a, la, x, xs, rfl, _⟩ := z; rfl) (fun cdv A outer s H E hG hr => ?_)
  refine ⟨_, (pss_one (ps_ret (pe_ix (ix_seqK (K := K) rfl) (pv 1) (pe_callG (ok__law_draw T) hG (hr.mono (by first | decide | omega)) (by rfl) T.g__law_draw T.F__law_draw.kp T.b__law_draw .nil pass0 (pa_cons (pv 0) (pa_cons (pe_callB (call_lenA (K := K) rfl) (by rfl) T.n_len (by decide +kernel) (pa_cons (pv 1) pa_nil)) pa_nil))) (fun _ _ => rfl)))), ?_⟩
  intro ds h Q z
  try dsimp only [cxOf, Cx.nox, Cx.wish]
  obtain ⟨a, la, x, xs, rfl, ea, hv, ne, hz, k⟩ := z
  have h0 := List.length_pos_iff.mpr ne
  walk_at "dd"
  refine ⟨a, la, _, rfl, ea, by omega, by omega, fun j j0 j1 => ?_⟩
  obtain ⟨n, rfl⟩ := Int.eq_ofNat_of_zero_le j0
  have hg := List.getElem?_eq_getElem (show n < xs.length by omega)
  walk_at "dd"
  exact frz0 (k _ (List.getElem_mem _))
end

/-! ### mixtures judged, rows drawn -/
section
variable {P : Program} {w : World} {K : PySem.W.Frag} {mg : Str → Option Value} {base : Heap} {e : Env}
def tIsInt : TD := fun ds h Q => ∃ i : Int, ds = [.int i] ∧ Q (.bl true) h
theorem sc__law_is_integer : FnScope ["_law_thing"] ["_law_thing"] (defScope s__law_is_integer) :=
  ⟨rfl, rfl, rfl, by decide +kernel, rfl, by decide +kernel, by decide +kernel⟩
theorem ok__law_is_integer (T : Txt K mg e) : FnG P w K mg base CX0 1 e.f__law_is_integer e.d__law_is_integer ["_law_thing"] (spD (tIsInt)) := by
  refine okD T.F__law_is_integer sc__law_is_integer (fun ds h Q z => by obtain ⟨i, rfl, _⟩ := z; rfl) (fun cdv A outer s H E hG hr => ?_)
  refine ⟨_, (pss_one (ps_ret (pe_and (pe_callB (call_isiK (K := K) rfl) (by rfl) T.n_isinstance (by decide +kernel) (pa_cons (pv 0) (pa_cons (pe_bltn (v := .ty "int") (by rfl) T.n_int (by decide +kernel) rfl) pa_nil))) (pe_one (pe_not (pe_callB (call_isiK (K := K) rfl) (by rfl) T.n_isinstance (by decide +kernel) (pa_cons (pv 0) (pa_cons (pe_bltn (v := .ty "bool") (by rfl) T.n_bool (by decide +kernel) rfl) pa_nil)))))))), ?_⟩
  intro ds h Q z
  try dsimp only [cxOf, Cx.nox, Cx.wish]
  obtain ⟨i, rfl, k⟩ := z
  walk_at "dd"
  refine d_cTy ?_
  walk_at "dd"
  refine v_isiG (n := "int") (m := "int") (b := true) rfl (by rfl) ?_
  walk_at "dd"
  refine ite_t rfl ?_
  walk_at "dd"
  refine d_cTy ?_
  walk_at "dd"
  refine v_isiG (n := "int") (m := "bool") (b := false) rfl (kit_no (by rfl) (by rfl) (by rfl)) ?_
  walk_at "dd"
  exact frz0 k
theorem vec_zip (c : IL) (S : List IL) : prsD (intsD c) (S.map vecD) = (c.zip S).map fun p => D.tup [.int p.1, vecD p.2] := prsD_map D.int vecD c S
theorem dot_sum (i : Nat) : ∀ (c : IL) (S : List IL), ((c.zip S).map fun q => q.1 * at0 q.2 i).sum = dotS c S i
  | [], S => by simp [dotS]
  | a :: c, [] => by simp [dotS]
  | a :: c, x :: S => by
    rw [List.zip_cons_cons, List.map_cons, List.sum_cons, dot_sum i c S, dotS]
def tInteger : TD := fun ds h Q => ∃ a la : Addr, ds = [.ref a] ∧ h a = some (.src la) ∧ ∀ x : Int, x.natAbs < 2 ^ 100 → Q (.int x) h
theorem sc__law_integer : FnScope ["_law_src", "_law_small"] ["_law_src"] (defScope s__law_integer) :=
  ⟨rfl, rfl, rfl, by decide +kernel, rfl, by decide +kernel, by decide +kernel⟩
theorem ok__law_integer (T : Txt K mg e) : FnG P w K mg base CX0 3 e.f__law_integer e.d__law_integer ["_law_src"] (spD (tInteger)) := by
  refine okD T.F__law_integer sc__law_integer (fun ds h Q z => by obtain ⟨a, la, rfl, _⟩ := z; rfl) (fun cdv A outer s H E hG hr => ?_)
  refine ⟨_, (pss_cons (ps_set (i := 1) sc__law_integer.nd rfl (by first | exact Or.inl rfl | exact Or.inr rfl) (pe_op op_sub (pe_callG (ok__law_draw T) hG (hr.mono (by first | decide | omega)) (by rfl) T.g__law_draw T.F__law_draw.kp T.b__law_draw .nil pass0 (pa_cons (pv 0) (pa_cons pe_int pa_nil))) pe_int))
  (pss_one (ps_ret (pe_callG (ok__law_of T) hG (hr.mono (by first | decide | omega)) (by rfl) T.g__law_of T.F__law_of.kp T.b__law_of .nil pass0 (pa_cons (pv 0) (pa_cons (pe_lst (pa_cons (pv 1) (pa_cons (pv 1) (pa_cons pe_int (pa_cons pe_int (pa_cons (pe_op op_sub (pe_callG (ok__law_draw T) hG (hr.mono (by first | decide | omega)) (by rfl) T.g__law_draw T.F__law_draw.kp T.b__law_draw .nil pass0 (pa_cons (pv 0) (pa_cons pe_int pa_nil))) pe_int) (pa_cons (pe_op op_sub (pe_callG (ok__law_draw T) hG (hr.mono (by first | decide | omega)) (by rfl) T.g__law_draw T.F__law_draw.kp T.b__law_draw .nil pass0 (pa_cons (pv 0) (pa_cons (pe_op (op_mulG (K := K) rfl) pe_int (pe_op op_pow pe_int pe_int)) pa_nil))) (pe_op op_pow pe_int pe_int)) pa_nil))))))) pa_nil)))))), ?_⟩
  intro ds h Q z
  try dsimp only [cxOf, Cx.nox, Cx.wish]
  obtain ⟨a, la, rfl, ea, k⟩ := z
  walk_at "dd"
  refine ⟨a, la, 5, rfl, ea, by decide, by decide, fun s s0 s1 => ?_⟩
  walk_at "dd"
  refine d_lst ?_
  walk_at "dd"
  refine ⟨a, la, 40, rfl, ea, by decide, by decide, fun t t0 t1 => ?_⟩
  walk_at "dd"
  refine v_Ii (show CPow 10 30 from ⟨by decide, by decide, by decide⟩) ?_
  rw [show (10 : Int) ^ (Int.toNat 30) = 1000000000000000000000000000000 from by decide]
  have c0 : CMulW 2 1000000000000000000000000000000 := mulw (a := 2) (b := 100) (by decide) (by decide) (by decide) (by decide)
  walk_at "dd"
  refine ⟨a, la, _, rfl, ea, by decide, by decide, fun u u0 u1 => ?_⟩
  walk_at "dd"
  refine v_Ii (show CPow 10 30 from ⟨by decide, by decide, by decide⟩) ?_
  rw [show (10 : Int) ^ (Int.toNat 30) = 1000000000000000000000000000000 from by decide]
  walk_at "dd"
  refine ⟨a, la, _, _, rfl, ea, .f, by simp, by simp, fun y hy => ?_⟩
  have big : (1000000000000000000000000000001 : Nat) < 2 ^ 100 := by decide
  simp only [List.mem_cons, List.not_mem_nil, or_false] at hy
  rcases hy with rfl | rfl | rfl | rfl | rfl | rfl
  · exact frz0 (k _ (by omega))
  · exact frz0 (k _ (by omega))
  · exact frz0 (k _ (by omega))
  · exact frz0 (k _ (by omega))
  · exact frz0 (k _ (by omega))
  · exact frz0 (k _ (by omega))
theorem bits_dot {b : Nat} {i : Nat} : ∀ (ws : IL) (S : List IL), (∀ x ∈ ws, x.natAbs ≤ 3) → (∀ s ∈ S, Bits b s) → (dotS ws S i).natAbs ≤ ws.length * (3 * 2 ^ b)
  | [], S, _, _ => by simp [dotS]
  | a :: ws, [], _, _ => by simp [dotS]
  | a :: ws, s :: S, h, k => by
    have ih := bits_dot (i := i) ws S (fun x hx => h x (List.mem_cons_of_mem _ hx)) (fun x hx => k x (List.mem_cons_of_mem _ hx))
    have h1 := h a (List.mem_cons_self ..)
    have h2 := (k s (List.mem_cons_self ..)).at i
    rw [dotS, List.length_cons, Nat.add_mul, Nat.one_mul]
    have h3 : (a * at0 s i).natAbs ≤ 3 * 2 ^ b := by rw [Int.natAbs_mul]; exact Nat.mul_le_mul h1 (Nat.le_of_lt h2)
    have := Int.natAbs_add_le (a * at0 s i) (dotS ws S i)
    omega
theorem vecs_ok : ∀ S : List IL, okPs (S.map vecD) = true ∧ PyData.canLayAll0 (toPs (S.map vecD)) = true ∧ PyData.depthAll (toPs (S.map vecD)) ≤ 1
  | [] => ⟨rfl, rfl, Nat.zero_le _⟩
  | a :: S => by
    obtain ⟨h1, h2, h3⟩ := vecs_ok S
    obtain ⟨g1, g2, g3⟩ := ints_ok a
    rw [List.map_cons, okPs, toPs, PyData.canLayAll0, PyData.depthAll, h1, h2, show vecD a = .tup (intsD a) from rfl]
    rw [okP, toP, PyData.canLay0, PyData.depth, g1, g2, g3]
    exact ⟨rfl, rfl, by omega⟩
theorem vecs_cmp (S : List IL) : cmpOk (.lst (S.map vecD)) := by
  obtain ⟨h1, h2, h3⟩ := vecs_ok S
  refine ⟨by rw [okP]; exact h1, ?_⟩
  unfold SeqAt.shaped
  rw [toP, PyData.canLay0, PyData.depth, h2, decide_eq_true (by omega)]
  rfl
theorem vecs_nil (S : List IL) : PyData.eqv (toP (.lst (S.map vecD))) (toP (.lst [])) = S.isEmpty := by
  cases S with
  | nil => rfl
  | cons a S => rfl
def tRow : TD := fun ds h Q => ∃ (a la : Addr) (y : D) (Sd : Hs → Prop) (S : List IL) (w b : Nat), ds = [.ref a, y, .int (w : Int)] ∧ LsI h y (S.map vecD) Sd ∧ SdOk Sd h ∧ h a = some (.src la) ∧ S.length ≤ 5 ∧ w ≤ 5 ∧ (∀ s ∈ S, s.length = w) ∧ 100 ≤ b ∧ b ≤ 1000 ∧ (∀ s ∈ S, Bits b s) ∧ ∀ v : IL, v.length = w → Bits (b + 4) v → Q (vecD v) h
theorem sc__law_row : FnScope ["_law_src", "_law_rows", "_law_width", "_law_weights", "_law_row_here", "_law_at", "_law_weight"] ["_law_src", "_law_rows", "_law_width"] (defScope s__law_row) :=
  ⟨rfl, rfl, rfl, by decide +kernel, rfl, by decide +kernel, by decide +kernel⟩
theorem ok__law_row (T : Txt K mg e) : FnG P w K mg base CX0 5 e.f__law_row e.d__law_row ["_law_src", "_law_rows", "_law_width"] (spD (tRow)) := by
  refine okD T.F__law_row sc__law_row (fun ds h Q z => by obtain ⟨a, la, y, Sd, S, w, b, rfl, _⟩ := z; rfl) (fun cdv A outer s H E hG hr => ?_)
  refine ⟨_, (pss_cons (ps_if (PW.pt (pw_and (pt_cmpR (op_neG (K := K) rfl hr.units) (pv 1) (pe_lst pa_nil) (nomark _)) (pw_and1 (pt_cmpR (op_eqG (K := K) rfl hr.units) (pe_callG (ok__law_draw T) hG (hr.mono (by first | decide | omega)) (by rfl) T.g__law_draw T.F__law_draw.kp T.b__law_draw .nil pass0 (pa_cons (pv 0) (pa_cons pe_int pa_nil))) pe_int (nomark _)))))
    (pss_cons (ps_set (i := 3) sc__law_row.nd rfl (by first | exact Or.inl rfl | exact Or.inr rfl) (pe_lc (own := [("_law_row_here", 4)]) (g := (gName 4)) (tt := tYes) rfl sc__law_row.nd (pi_seqK (K := K) rfl (pv 1)) (blkOk_by (own := [("_law_row_here", 4)]) (N := ["_law_src", "_law_rows", "_law_width", "_law_weights", "_law_row_here", "_law_at", "_law_weight"]) (sc := defScope (top 18)) (by decide +kernel)) (fun _ _ _ _ _ => (pg_name (i := 4) sc__law_row.nd rfl (by first | exact Or.inl rfl | exact Or.inr rfl))) (fun _ _ _ _ _ => pts_nil) (fun _ _ _ _ _ => (pe_op op_sub (pe_callG (ok__law_draw T) hG (hr.mono (by first | decide | omega)) (by rfl) T.g__law_draw T.F__law_draw.kp T.b__law_draw .nil pass0 (pa_cons (pv 0) (pa_cons pe_int pa_nil))) pe_int))))
      (pss_one (ps_ret (pe_callTy (call_tupleK (K := K) rfl) (by rfl) T.n_tuple (by decide +kernel) (pa_cons (pe_lc (own := [("_law_at", 5)]) (g := (gName 5)) (tt := tYes) rfl sc__law_row.nd (pi_range1 (by rfl) T.n_range (pa_cons (pv 2) pa_nil)) (blkOk_by (own := [("_law_at", 5)]) (N := ["_law_src", "_law_rows", "_law_width", "_law_weights", "_law_row_here", "_law_at", "_law_weight"]) (sc := defScope (top 18)) (by decide +kernel)) (fun _ _ _ _ _ => (pg_name (i := 5) sc__law_row.nd rfl (by first | exact Or.inl rfl | exact Or.inr rfl))) (fun _ _ _ _ _ => pts_nil) (fun _ _ _ _ _ => (pe_callB (cr_sumK (K := K) rfl rfl) (by rfl) T.n_sum (by decide +kernel) (pa_cons (pe_lc (own := [("_law_weight", 6), ("_law_row_here", 4)]) (g := (gSeq K 2 (gCons (gName 6) (gCons (gName 4) gNil)))) (tt := tYes) rfl sc__law_row.nd (pi_zipG (K := K) rfl (by rfl) T.n_zip (pa_cons (pv 3) (pa_cons (pv 1) pa_nil))) (by (try dsimp only [cxOf, Cx.nox, Cx.wish, Cx.blk, compEnvC]); exact blk_nest (psc := defScope (top 18)) rfl (by decide +kernel)) (fun _ _ _ _ _ => (pg_seqK (K := K) rfl rfl (pgs_cons (pg_name (i := 6) sc__law_row.nd rfl (by first | exact Or.inl rfl | exact Or.inr rfl)) (pgs_cons (pg_name (i := 4) sc__law_row.nd rfl (by first | exact Or.inl rfl | exact Or.inr rfl)) pgs_nil)))) (fun _ _ _ _ _ => pts_nil) (fun _ _ _ _ _ => (pe_op (op_mulG (K := K) rfl) (pv 6) (pe_ix (ix_seqK (K := K) rfl) (pv 4) (pv 5) (fun _ _ => rfl))))) pa_nil)))) pa_nil)))))
    pss_nil)
  (pss_one (ps_ret (pe_callTy (call_tupleK (K := K) rfl) (by rfl) T.n_tuple (by decide +kernel) (pa_cons (pe_lc (own := [("_law_at", 5)]) (g := (gName 5)) (tt := tYes) rfl sc__law_row.nd (pi_range1 (by rfl) T.n_range (pa_cons (pv 2) pa_nil)) (blkOk_by (own := [("_law_at", 5)]) (N := ["_law_src", "_law_rows", "_law_width", "_law_weights", "_law_row_here", "_law_at", "_law_weight"]) (sc := defScope (top 18)) (by decide +kernel)) (fun _ _ _ _ _ => (pg_name (i := 5) sc__law_row.nd rfl (by first | exact Or.inl rfl | exact Or.inr rfl))) (fun _ _ _ _ _ => pts_nil) (fun _ _ _ _ _ => (pe_callG (ok__law_integer T) hG (hr.mono (by first | decide | omega)) (by rfl) T.g__law_integer T.F__law_integer.kp T.b__law_integer .nil pass0 (pa_cons (pv 0) pa_nil)))) pa_nil))))), ?_⟩
  intro ds h Q z
  try dsimp only [cxOf, Cx.nox, Cx.wish]
  obtain ⟨a, la, y, Sd, S, w, b, rfl, iy, oS, ea, hS, w5, lS, b1, b2, bS, k⟩ := z
  walk_at "dd"
  refine d_lst ?_
  walk_at "dd"
  have vy : LsV h y (S.map vecD) := by
    cases iy with
    | f => exact .f
    | c e => exact .c e
  refine w_neC vy (vecs_cmp S) (FineA.nil (d := 0) (w := 0)).lst.cmp ?_
  rw [vecs_nil S]
  walk_at "dd"
  refine ite_b (fun h0 => ?_) (fun h0 => ?_)
  · walk_at "dd"
    refine ⟨a, la, 2, rfl, ea, by decide, by decide, fun u u0 u1 => ?_⟩
    walk_at "dd"
    refine ite_b (fun hu => ?_) (fun hu => ?_)
    · walk_at "dd"
      refine ⟨_, _, .l iy, ?_⟩
      refine lc_rel S vecD D.int (fun _ _ (x : Int) => x.natAbs ≤ 3) rfl (by omega) oS ?_ (fun ws hb hR => .f ?_)
      · intro p acc i j np ej
        walk_at "dd"
        refine ⟨a, la, 7, rfl, by walk_at "hc", by decide, by decide, fun t t0 t1 => ?_⟩
        walk_at "dd"
        first | exact ⟨rfl, t - 3, rfl, by omega⟩ | (show (t - 3).natAbs ≤ 3; omega)
      have w3 : ∀ x ∈ ws, x.natAbs ≤ 3 := fun x hx => by
        obtain ⟨i, hi⟩ := List.getElem?_of_mem hx
        have hi2 := (List.getElem?_eq_some_iff.mp hi).1
        exact hR i _ x (List.getElem?_eq_getElem (show i < S.length by omega)) hi
      walk_at "dd"
      refine lc_map (List.range w) natD (fun i => .int (dotS ws S i)) (rngD_nat w) (by rw [List.length_range]; omega) .t ?_ (.f ?_)
      · intro p acc i j np ej
        have hj : j < w := List.mem_range.mp (List.mem_of_getElem? ej)
        walk_at "dd"
        refine i_zipI ?_
        walk_at "dd"
        have iy2 : ∃ Se, LsI (seth h p (.lst acc)) y (S.map vecD) Se ∧ SdOk Se (seth h p (.lst acc)) := by
          cases iy with
          | f => exact ⟨_, .f, .t⟩
          | c e => exact ⟨_, .c ((seth_ne (h_ne e np)).trans e), .c ((seth_ne (h_ne e np)).trans e)⟩
        obtain ⟨Se, iy2, oS2⟩ := iy2
        refine ⟨_, _, _, _, _, _, rfl, .f, iy2, ?_⟩
        rw [show prsD (ws.map D.int) (S.map vecD) = (ws.zip S).map fun q => D.tup [.int q.1, vecD q.2] from vec_zip ws S]
        refine lc_map (ws.zip S) (fun q => .tup [.int q.1, vecD q.2]) (fun q => .int (q.1 * at0 q.2 j)) rfl (by rw [List.length_zip]; omega) (.and .t oS2) ?_ (.f ?_)
        · intro pa acc2 i2 q np2 eq'
          obtain ⟨m1, m2⟩ := List.getElem?_zip_eq_some.mp eq'
          have qm := List.mem_of_getElem? m2
          have fq := ints_at (l := q.2) (i := j) (by rw [lS _ qm]; exact hj)
          have c1 : CMulW q.1 (at0 q.2 j) := mulw (a := 2) (b := b) (Nat.lt_of_le_of_lt (w3 _ (List.mem_of_getElem? m1)) (by decide)) ((bS _ qm).at j) (by decide) (by omega)
          unfold vecD
          walk_at "dd"
          rfl
        walk_at "dd"
        refine v_sum (ns := (ws.zip S).map fun q => q.1 * at0 q.2 j) (by rw [List.map_map]; exact .f) ?_
        rw [dot_sum]
        first | rfl | exact ⟨rfl, rfl⟩
      walk_at "dd"
      refine frz0 ?_
      have q := k ((List.range w).map fun i => dotS ws S i) (by rw [List.length_map, List.length_range]) fun x hx => by
        obtain ⟨i, hi, rfl⟩ := List.mem_map.mp hx
        have h1 := bits_dot (i := i) ws S w3 bS
        have h2 : 2 ^ (b + 4) = 16 * 2 ^ b := by rw [Nat.pow_add]; omega
        have h3 : 0 < 2 ^ b := Nat.pow_pos (by decide)
        have h4 : ws.length * (3 * 2 ^ b) ≤ 5 * (3 * 2 ^ b) := Nat.mul_le_mul_right _ (by omega)
        omega
      rw [show vecD ((List.range w).map fun i => dotS ws S i) = .tup ((List.range w).map fun i => D.int (dotS ws S i)) from by unfold vecD intsD; rw [List.map_map]; rfl] at q
      exact q
    · walk_at "dd"
      refine lc_rel (List.range w) natD D.int (fun _ _ (x : Int) => x.natAbs < 2 ^ 100) (rngD_nat w) (by rw [List.length_range]; omega) .t ?_ (fun bs hb hR => .f ?_)
      · intro p acc i j np ej
        walk_at "dd"
        refine ⟨a, la, rfl, by walk_at "hc", fun x hx => ?_⟩
        exact ⟨rfl, x, rfl, hx⟩
      walk_at "dd"
      refine frz0 (k bs (by rw [hb, List.length_range]) fun x hx => ?_)
      obtain ⟨i, hi⟩ := List.getElem?_of_mem hx
      have hi2 := (List.getElem?_eq_some_iff.mp hi).1
      rw [hb, List.length_range] at hi2
      exact Nat.lt_of_lt_of_le (hR i i x (List.getElem?_range hi2) hi) (Nat.pow_le_pow_right (by decide) (by omega))
  · refine ite_f rfl ?_
    walk_at "dd"
    refine lc_rel (List.range w) natD D.int (fun _ _ (x : Int) => x.natAbs < 2 ^ 100) (rngD_nat w) (by rw [List.length_range]; omega) .t ?_ (fun bs hb hR => .f ?_)
    · intro p acc i j np ej
      walk_at "dd"
      refine ⟨a, la, rfl, by walk_at "hc", fun x hx => ?_⟩
      exact ⟨rfl, x, rfl, hx⟩
    walk_at "dd"
    refine frz0 (k bs (by rw [hb, List.length_range]) fun x hx => ?_)
    obtain ⟨i, hi⟩ := List.getElem?_of_mem hx
    have hi2 := (List.getElem?_eq_some_iff.mp hi).1
    rw [hb, List.length_range] at hi2
    exact Nat.lt_of_lt_of_le (hR i i x (List.getElem?_range hi2) hi) (Nat.pow_le_pow_right (by decide) (by omega))
end

end Toy

set_option Elab.async false
set_option linter.all false
set_option maxRecDepth 100000
set_option maxHeartbeats 4000000
/-! ### small vectors that are 0 with all rows -/
namespace GX
def NN : Nat → Nat → Nat
  | 0, _ => 0
  | 1, _ => 0
  | n + 2, b => b + NN (n + 1) (2 * b + 1) + 2
theorem sumR_le {f : Nat → Int} {B : Nat} : ∀ n, (∀ i, i < n → (f i).natAbs ≤ B) → (sumR n f).natAbs ≤ n * B
  | 0, _ => by simp [sumR]
  | n + 1, h => by
    rw [sumR_succ, Nat.succ_mul]
    have := sumR_le n fun i hi => h i (by omega)
    have h2 := h n (by omega)
    have := Int.natAbs_add_le (sumR n f) (f n)
    omega
theorem small : ∀ (n b : Nat) (rows : List (Nat → Int)), n ≤ 5 → (∀ r ∈ rows, ∀ i, i < n → (r i).natAbs ≤ 2 ^ b) → (∃ y : Nat → Int, (∃ i, i < n ∧ y i ≠ 0) ∧ ∀ r ∈ rows, sumR n (fun i => y i * r i) = 0) →
    ∃ z : Nat → Int, (∃ i, i < n ∧ z i ≠ 0) ∧ (∀ r ∈ rows, sumR n (fun i => z i * r i) = 0) ∧ ∀ i, i < n → (z i).natAbs ≤ 2 ^ NN n b
  | 0, b, rows, _, _, ⟨y, ⟨i, hi, _⟩, _⟩ => absurd hi (Nat.not_lt_zero _)
  | n + 1, b, rows, n5, hb, ⟨y, ⟨i0, hi0, hy0⟩, hy⟩ => by
    by_cases hz : ∀ r ∈ rows, r n = 0
    · refine ⟨fun i => if i = n then 1 else 0, ⟨n, Nat.lt_succ_self n, by dsimp only; rw [if_pos rfl]; decide⟩, fun r hr => ?_, fun i hi => ?_⟩
      · rw [sumR_succ, sumR_zero n fun i hi => by dsimp only; rw [if_neg (by omega), Int.zero_mul], hz r hr, Int.mul_zero]
        rfl
      · have : 0 < 2 ^ NN (n + 1) b := Nat.pow_pos (by decide)
        dsimp only
        split
        · exact this
        · exact Nat.zero_le _
    · obtain ⟨a, ha, hn⟩ : ∃ a ∈ rows, a n ≠ 0 := by
        refine Classical.byContradiction fun c => hz fun r hr => ?_
        exact Classical.byContradiction fun q => c ⟨r, hr, q⟩
      have hya := hy a ha
      rw [sumR_succ] at hya
      have yn : ∃ i, i < n ∧ y i ≠ 0 := by
        refine Classical.byContradiction fun c => ?_
        have z : ∀ i, i < n → y i = 0 := fun i hi => Classical.byContradiction fun q => c ⟨i, hi, q⟩
        rw [sumR_zero n fun i hi => by rw [z i hi, Int.zero_mul], Int.zero_add] at hya
        have e0 : i0 = n := by
          by_cases e : i0 = n
          · exact e
          · exact absurd (z i0 (by omega)) hy0
        rw [e0] at hy0
        exact Int.mul_ne_zero hy0 hn hya
      match n, n5, hb, hy, hn, hya, yn, hi0 with
      | 0, _, _, _, _, _, ⟨i, hi, _⟩, _ => exact absurd hi (Nat.not_lt_zero _)
      | n + 1, n5, hb, hy, hn, hya, yn, hi0 =>
        have bnd : ∀ r ∈ rows.map (fun (r : Nat → Int) (i : Nat) => a (n + 1) * r i - r (n + 1) * a i), ∀ i, i < n + 1 → (r i).natAbs ≤ 2 ^ (2 * b + 1) := by
          rintro r' hr' i hi
          obtain ⟨r, hr, rfl⟩ := List.mem_map.mp hr'
          have h1 := hb a ha (n + 1) (by omega)
          have h2 := hb r hr i (by omega)
          have h3 := hb r hr (n + 1) (by omega)
          have h4 := hb a ha i (by omega)
          have e1 : (a (n + 1) * r i).natAbs ≤ 2 ^ b * 2 ^ b := by rw [Int.natAbs_mul]; exact Nat.mul_le_mul h1 h2
          have e2 : (r (n + 1) * a i).natAbs ≤ 2 ^ b * 2 ^ b := by rw [Int.natAbs_mul]; exact Nat.mul_le_mul h3 h4
          have e3 : 2 ^ (2 * b + 1) = 2 ^ b * 2 ^ b + 2 ^ b * 2 ^ b := by rw [Nat.pow_succ, Nat.two_mul b, Nat.pow_add]; omega
          have := Int.natAbs_sub_le (a (n + 1) * r i) (r (n + 1) * a i)
          show (a (n + 1) * r i - r (n + 1) * a i).natAbs ≤ _
          omega
        have nul : ∀ (v : Nat → Int) (r : Nat → Int), sumR (n + 1) (fun i => v i * (a (n + 1) * r i - r (n + 1) * a i)) = a (n + 1) * sumR (n + 1) (fun i => v i * r i) - r (n + 1) * sumR (n + 1) (fun i => v i * a i) := fun v r => by
          rw [← sumR_lin]
          refine sumR_congr _ fun i _ => ?_
          rw [Int.mul_sub, ← Int.mul_assoc, ← Int.mul_assoc, ← Int.mul_assoc, ← Int.mul_assoc, Int.mul_comm (v i), Int.mul_comm (v i)]
        obtain ⟨z, ⟨i1, hi1, hz1⟩, hz2, hz3⟩ := small (n + 1) (2 * b + 1) (rows.map fun (r : Nat → Int) (i : Nat) => a (n + 1) * r i - r (n + 1) * a i) (by omega) bnd ⟨y, yn, fun r' hr' => by
          obtain ⟨r, hr, rfl⟩ := List.mem_map.mp hr'
          rw [nul y r]
          have h1 := hy r hr
          rw [sumR_succ] at h1
          rw [show sumR (n + 1) (fun i => y i * r i) = -(y (n + 1) * r (n + 1)) from by omega, show sumR (n + 1) (fun i => y i * a i) = -(y (n + 1) * a (n + 1)) from by omega, Int.mul_neg, Int.mul_neg, ← Int.mul_assoc, ← Int.mul_assoc, Int.mul_comm (a (n + 1) * y (n + 1)), ← Int.mul_assoc, Int.mul_comm (r (n + 1) * a (n + 1)), Int.mul_comm (r (n + 1)) (y (n + 1)), Int.mul_assoc (y (n + 1)) (r (n + 1))]
          omega⟩
        refine ⟨fun i => if i = n + 1 then -(sumR (n + 1) fun i => z i * a i) else a (n + 1) * z i, ⟨i1, by omega, ?_⟩, fun r hr => ?_, fun i hi => ?_⟩
        · dsimp only
          rw [if_neg (by omega)]
          exact Int.mul_ne_zero hn hz1
        · have h1 := hz2 _ (List.mem_map_of_mem hr)
          rw [nul z r] at h1
          rw [sumR_succ]
          dsimp only
          rw [if_pos rfl, sumR_congr (g := fun i => a (n + 1) * (z i * r i)) (n + 1) fun i hi => by rw [if_neg (by omega), Int.mul_assoc], sumR_mul, Int.neg_mul, Int.mul_comm (sumR (n + 1) fun i => z i * a i)]
          omega
        · show _ ≤ 2 ^ (b + NN (n + 1) (2 * b + 1) + 2)
          have e : 2 ^ (b + NN (n + 1) (2 * b + 1) + 2) = 4 * (2 ^ b * 2 ^ NN (n + 1) (2 * b + 1)) := by rw [Nat.pow_add, Nat.pow_add, Nat.mul_comm]
          have p0 : 0 < 2 ^ b * 2 ^ NN (n + 1) (2 * b + 1) := Nat.mul_pos (Nat.pow_pos (by decide)) (Nat.pow_pos (by decide))
          rw [e]
          dsimp only
          split
          · rw [Int.natAbs_neg]
            have := sumR_le (f := fun i => z i * a i) (B := 2 ^ b * 2 ^ NN (n + 1) (2 * b + 1)) (n + 1) fun i hi => by
              rw [Int.natAbs_mul, Nat.mul_comm]
              exact Nat.mul_le_mul (hb a ha i (by omega)) (hz3 i hi)
            have h4 : (n + 1) * (2 ^ b * 2 ^ NN (n + 1) (2 * b + 1)) ≤ 4 * (2 ^ b * 2 ^ NN (n + 1) (2 * b + 1)) := Nat.mul_le_mul_right _ (by omega)
            omega
          · have : (a (n + 1) * z i).natAbs ≤ 2 ^ b * 2 ^ NN (n + 1) (2 * b + 1) := by
              rw [Int.natAbs_mul]
              exact Nat.mul_le_mul (hb a ha _ (by omega)) (hz3 i (by omega))
            omega
theorem NN_le {n b : Nat} (hn : n ≤ 5) (hb : b ≤ 125) : NN n b ≤ 1894 := by
  match n with
  | 0 => exact Nat.zero_le _
  | 1 => exact Nat.zero_le _
  | 2 => show b + 0 + 2 ≤ 1894; omega
  | 3 => show b + ((2 * b + 1) + 0 + 2) + 2 ≤ 1894; omega
  | 4 => show b + ((2 * b + 1) + ((2 * (2 * b + 1) + 1) + 0 + 2) + 2) + 2 ≤ 1894; omega
  | 5 => show b + ((2 * b + 1) + ((2 * (2 * b + 1) + 1) + ((2 * (2 * (2 * b + 1) + 1) + 1) + 0 + 2) + 2) + 2) + 2 ≤ 1894; omega
/-- a row of greatest divisor 1 divides what is a multiple of it -/
theorem prim_le {v : IL} {z : Nat → Int} {α β : Int} (h1 : cm v = 1) (hα : α ≠ 0) (hβ : β ≠ 0) (h : ∀ i, i < v.length → α * at0 v i = β * z i) : ∀ i, i < v.length → (at0 v i).natAbs ≤ (z i).natAbs := by
  have hd : β ∣ α := by
    have g0 : 0 < Nat.gcd β.natAbs α.natAbs := Nat.gcd_pos_of_pos_left _ (by omega)
    obtain ⟨β', eβ⟩ := Nat.gcd_dvd_left β.natAbs α.natAbs
    obtain ⟨α', eα⟩ := Nat.gcd_dvd_right β.natAbs α.natAbs
    have cop : Nat.gcd β' α' = 1 := by
      have := Nat.gcd_mul_left (Nat.gcd β.natAbs α.natAbs) β' α'
      rw [← eβ, ← eα] at this
      exact Nat.eq_of_mul_eq_mul_left g0 (by omega)
    have dv : β' ∣ cm v := cm_great fun x hx => by
      obtain ⟨i, hi⟩ := List.getElem?_of_mem hx
      have hl := (List.getElem?_eq_some_iff.mp hi).1
      have ex : at0 v i = x := by unfold at0; rw [List.getD_eq_getElem?_getD, hi]; rfl
      have e := congrArg Int.natAbs (h i hl)
      rw [ex, Int.natAbs_mul, Int.natAbs_mul] at e
      have e2 : α' * x.natAbs = β' * (z i).natAbs := by
        refine Nat.eq_of_mul_eq_mul_left g0 ?_
        rw [← Nat.mul_assoc, ← Nat.mul_assoc, ← eα, ← eβ, e]
      have : β' ∣ α' * x.natAbs := ⟨_, e2⟩
      exact Int.ofNat_dvd_left.mpr (Nat.Coprime.dvd_of_dvd_mul_left cop this)
    rw [h1] at dv
    have b1 := Nat.dvd_one.mp dv
    rw [b1, Nat.mul_one] at eβ
    refine Int.natAbs_dvd_natAbs.mp ?_
    rw [eβ]
    exact Nat.gcd_dvd_right _ _
  obtain ⟨t, rfl⟩ := hd
  intro i hi
  have e := h i hi
  rw [Int.mul_assoc] at e
  have e2 := Int.eq_of_mul_eq_mul_left hβ e
  have ht : t ≠ 0 := fun q => hα (by rw [q, Int.mul_zero])
  rw [← e2, Int.natAbs_mul]
  exact Nat.le_mul_of_pos_left _ (by omega)
theorem Lead.small {w p : Nat} {A : List IL} {ld : List LRow} (o : Lead w A ld) (hp : p < w) (n : p ∉ ld.map (·.1)) (w5 : w ≤ 5) (hb : ∀ a ∈ A, Bits 125 a) : ∀ x ∈ nrow w p ld, x.natAbs ≤ 2 ^ 1894 := by
  have N := o.nok hp n
  have V := o.vok hp n
  have hv := (o.null _).mpr (o.vnl hp n)
  have S := o.sc.1
  have cp : cm (vals w p ld) ≠ 0 := by
    have hm : at0 (vals w p ld) p ∈ vals w p ld := at_mem (by rw [V.place]; omega)
    have := cm_pos hm (by rw [V.place]; omega)
    omega
  have en : ∀ i, ((cm (vals w p ld) : Nat) : Int) * at0 (nrow w p ld) i = at0 (vals w p ld) i := fun i => at_div (dvd_cm _) (by omega) i
  generalize nrow w p ld = v at N en
  generalize hvv : vals w p ld = vv at V hv cp en
  -- rows that ask 0 outside
  let out : List (Nat → Int) := ((List.range w).filter fun i => decide (i ∉ ld.map (·.1) ∧ i ≠ p)).map fun i j => if j = i then 1 else 0
  let rows : List (Nat → Int) := A.map at0 ++ out
  have hrows : ∀ r ∈ rows, ∀ i, i < w → (r i).natAbs ≤ 2 ^ 125 := by
    intro r hr i hi
    rcases List.mem_append.mp hr with h | h
    · obtain ⟨a, ha, rfl⟩ := List.mem_map.mp h
      exact Nat.le_of_lt ((hb a ha).at i)
    · obtain ⟨k, hk, rfl⟩ := List.mem_map.mp h
      dsimp only
      split
      · exact Nat.pow_pos (by decide)
      · exact Nat.zero_le _
  have outS : ∀ (c : Nat → Int), (∀ r ∈ out, sumR w (fun i => c i * r i) = 0) ↔ ∀ i, i < w → i ∉ ld.map (·.1) → i ≠ p → c i = 0 := fun c => by
    have key : ∀ i, i < w → sumR w (fun j => c j * (if j = i then 1 else 0)) = c i := fun i hi => by
      rw [sumR_one (p := i) w hi fun j hj ne => by rw [if_neg ne, Int.mul_zero], if_pos rfl, Int.mul_one]
    constructor
    · intro h i hi h1 h2
      have := h (fun j => if j = i then 1 else 0) (List.mem_map.mpr ⟨i, List.mem_filter.mpr ⟨List.mem_range.mpr hi, decide_eq_true ⟨h1, h2⟩⟩, rfl⟩)
      rw [key i hi] at this
      exact this
    · intro h r hr
      obtain ⟨i, hi, rfl⟩ := List.mem_map.mp hr
      obtain ⟨h1, h2⟩ := List.mem_filter.mp hi
      have h2 := of_decide_eq_true h2
      rw [key i (List.mem_range.mp h1)]
      exact h i (List.mem_range.mp h1) h2.1 h2.2
  obtain ⟨z, ⟨i0, hi0, hz0⟩, hz1, hz2⟩ := GX.small w 125 rows w5 hrows ⟨at0 vv, ⟨p, hp, by rw [V.place]; omega⟩, fun r hr => by
    rcases List.mem_append.mp hr with h | h
    · obtain ⟨a, ha, rfl⟩ := List.mem_map.mp h
      exact hv a ha
    · exact (outS _).mpr (fun i hi h1 h2 => V.rest i h2 h1) r h⟩
  have zout := (outS z).mp fun r hr => hz1 r (List.mem_append_right _ hr)
  have znl := (o.null z).mp fun a ha => hz1 (at0 a) (List.mem_append_left _ (List.mem_map_of_mem ha))
  -- z is a multiple
  have prop : ∀ i, i < w → z p * at0 vv i = scale ld * z i := by
    intro i hi
    by_cases e : i = p
    · rw [e, V.place, Int.mul_comm]
    · by_cases hm : i ∈ ld.map (·.1)
      · obtain ⟨q, hq, rfl⟩ := List.mem_map.mp hm
        have h1 := znl q hq
        have dv := o.sc.2 q hq
        have ps := (o.pos q hq).1
        have qp : q.1 ≠ p := e
        unfold nl at h1
        rw [sumR_two (p := p) (q := q.1) (Ne.symm qp) w hp hi fun j hj n1 n2 => ?_] at h1
        · rw [V.piv q hq]
          have ef := fdiv_mul dv (by omega)
          generalize (scale ld).fdiv (at0 q.2 q.1) = k at ef
          rw [← ef]
          have h2 : z q.1 * at0 q.2 q.1 = -(z p * at0 q.2 p) := by omega
          rw [Int.mul_comm (at0 q.2 q.1) k, Int.mul_assoc, Int.mul_comm (at0 q.2 q.1) (z q.1), h2, Int.mul_neg, Int.neg_mul, Int.mul_neg, ← Int.mul_assoc, Int.mul_comm k]
        · by_cases hm2 : j ∈ ld.map (·.1)
          · obtain ⟨q', hq', rfl⟩ := List.mem_map.mp hm2
            rw [o.other hq hq' fun e => n2 (by rw [e]), Int.mul_zero]
          · rw [zout j hj hm2 n1, Int.zero_mul]
      · rw [V.rest i e hm, zout i hi hm e, Int.mul_zero, Int.mul_zero]
  have zp : z p ≠ 0 := fun h0 => by
    have := prop i0 hi0
    rw [h0, Int.zero_mul] at this
    rcases Int.mul_eq_zero.mp this.symm with h | h
    · omega
    · exact hz0 h
  have fin := prim_le (v := v) (z := z) (α := z p * ((cm vv : Nat) : Int)) (β := scale ld) N.cm (Int.mul_ne_zero zp (by omega)) (by omega) fun i hi => by
    rw [Int.mul_assoc, en]
    exact prop i (by rw [← N.len]; exact hi)
  intro x hx
  obtain ⟨i, hi⟩ := List.getElem?_of_mem hx
  have hl := (List.getElem?_eq_some_iff.mp hi).1
  have ex : at0 v i = x := by unfold at0; rw [List.getD_eq_getElem?_getD, hi]; rfl
  rw [← ex]
  refine Nat.le_trans (fin i hl) (Nat.le_trans (hz2 i (by rw [← N.len]; exact hl)) (Nat.pow_le_pow_right (by decide) (NN_le w5 (Nat.le_refl _))))
end GX

set_option Elab.async false
set_option linter.all false
set_option maxRecDepth 100000
set_option maxHeartbeats 8000000
set_option pp.maxSteps 2500
set_option pp.deepTerms.threshold 12
namespace Toy
open PySem L2 GX PySem.Spec TL
/-! ### one step of a reading over data -/
local macro_rules | `(tactic| walk_at "d1") => `(tactic| with_reducible first
  | refine' d_seq ?_ | refine' d_asg ?_ | refine' d_retF ?_ | refine' d_retN ?_ | refine' d_drop ?_ | refine' d_next ?_ | refine' d_break ?_ | refine' d_cont ?_ | refine' d_ifS ?_ | refine' d_par ?_ | refine' d_pr ?_
  | refine' d_cInt ?_ | refine' d_cBl ?_ | refine' d_cStr ?_ | refine' d_cNon ?_ | refine' d_cRef ?_ | refine' v_isBl ?_ | refine' v_notBl ?_ | refine' d_joined ?_ | refine' d_jcons ?_ | refine' d_jnil ?_ | refine' d_op ?_ | refine' d_un ?_ | refine' d_test ?_ | refine' d_B ?_ | refine' d_bl ?_
  | refine' d_and ?_ | refine' d_or ?_ | refine' d_not ?_ | refine' d_yes ?_ | refine' d_if ?_ | refine' d_andV ?_ | refine' d_orV ?_ | refine' d_notV ?_ | refine' d_chain ?_
  | refine' d_nil ?_ | refine' d_cons ?_ | refine' d_CB ?_ | refine' d_tup ?_ | refine' d_call ?_ | refine' d_fld ?_ | refine' d_sfld ?_ | refine' d_meth ?_ | refine' d_make ?_
  | refine' d_din ?_ | refine' d_dnin ?_ | refine' d_dget ?_ | refine' d_dput ?_ | refine' d_dsetd ?_ | refine' d_for ?_ | refine' d_lc ?_
  | refine' i_seq ?_ | refine' i_list ?_ | refine' i_tup ?_ | refine' i_str ?_ | refine' i_rng1 ?_ | refine' i_rng2 ?_ | refine' i_rng3 ?_ | refine' i_zip ?_ | refine' i_enum ?_
  | refine' d_sl ?_ | refine' d_part ?_ | refine' d_nopart ?_ | refine' d_M1 ?_ | refine' d_M0 ?_ | refine' x_part ?_ | refine' x_strE ?_ | refine' x_seqF ?_ | refine' x_seqT ?_ | refine' x_lstF ?_ | refine' x_isLf ?_
  | refine' ⟨_, g_name ?_⟩ | refine' g_name ?_ | refine' g_nil ?_ | refine' g_cons ?_ | refine' ⟨_, g_sub ?_⟩ | refine' x_same ?_ | refine' d_BML rfl ?_ | refine' d_BML0 rfl ?_)
local macro_rules | `(tactic| walk_at "dv") => `(tactic| ((with_reducible refine' d_var ?hv ?_); (case hv => rfl)))
/-- a cell's content -/
local macro_rules | `(tactic| walk_at "hn") => `(tactic| first
  | assumption | exact Ne.symm (by assumption)
  | ((refine' h_ne ?ha ?hb); (case hb => assumption); (case ha => walk_at "hc"))
  | ((refine' Ne.symm (h_ne ?ha ?hb)); (case hb => assumption); (case ha => walk_at "hc")))
local macro_rules | `(tactic| walk_at "hc") => `(tactic| first
  | assumption | exact seth_same
  | ((refine' (seth_ne ?hn).trans ?hh); (case hn => walk_at "hn"); (case hh => walk_at "hc")))
/-- a sequence seen -/
local macro_rules | `(tactic| walk_at "sq") => `(tactic| first
  | exact LsV.f | exact SqV.l | exact SqV.t | assumption | exact Or.inl (by assumption) | ((refine' LsV.c ?e0); (case e0 => walk_at "hc")) | ((refine' SqV.c ?e0); (case e0 => walk_at "hc")) | assumption)
local macro_rules | `(tactic| walk_at "lk") => `(tactic| first | (with_reducible exact lk0) | exact lkN | (refine lkS (by decide +kernel) ?_; walk_at "lk"))
local macro_rules | `(tactic| walk_at "iv") => `(tactic| first | exact InsV.f | assumption | ((refine' InsV.c ?e0); (case e0 => walk_at "hc")))
local macro_rules | `(tactic| walk_at "dk") => `(tactic| first | exact DkV.f | assumption | ((refine' DkV.c ?e0); (case e0 => walk_at "hc")))
local macro_rules | `(tactic| walk_at "cls") => `(tactic| first | assumption)
local macro_rules | `(tactic| walk_at "he") => `(tactic| first | rfl | assumption | exact atI_nat (by assumption) | exact atI_eq (by assumption) (by omega))
local macro_rules | `(tactic| walk_at "hl") => `(tactic| first | assumption | (simp only [List.length_map, List.length_append, List.length_cons, List.length_nil, List.length_replicate, strLen_append]; omega) | omega | decide)
local macro_rules | `(tactic| walk_at "dx") => `(tactic| first
  | ((with_reducible refine' d_aug ?hv ?_); (case hv => rfl))
  | ((with_reducible refine' ⟨_, g_tup ?hl ?_⟩); (case hl => rfl))
  | ((with_reducible refine' g_tup ?hl ?_); (case hl => rfl))
  | ((with_reducible refine' ⟨_, g_seqT ?hl ?_⟩); (case hl => rfl))
  | ((with_reducible refine' g_seqT ?hl ?_); (case hl => rfl))
  | ((with_reducible refine' ⟨_, g_seqL ?hx ?hl ?_⟩); (case hx => walk_at "sq"); (case hl => rfl))
  | ((with_reducible refine' g_seqL ?hx ?hl ?_); (case hx => walk_at "sq"); (case hl => rfl))
  | ((with_reducible refine' g_nameV ?hm ?_); (case hm => simp))
  | (with_reducible refine' g_consV ?_)
  | (with_reducible refine' g_nilV ?_)
  | ((with_reducible refine' x_seqC ?hs ?_); (case hs => walk_at "hc"))
  | ((with_reducible refine' x_lstC ?hs ?_); (case hs => walk_at "hc"))
  | ((with_reducible refine' x_isL ?hs ?_); (case hs => walk_at "hc"))
  | ((with_reducible refine' x_size ?hs ?_); (case hs => walk_at "hl"))
  | ((with_reducible refine' x_rg1 ?hs ?_); (case hs => constructor <;> first | omega | (simp only [List.length_map]; omega)))
  | ((with_reducible refine' x_rg2 ?hs ?_); (case hs => refine ⟨?_, ?_, ?_, ?_⟩ <;> first | omega | (simp only [List.length_map]; omega)))
  | (with_reducible refine' w_addI ?_)
  | ((with_reducible refine' w_mulI ?hc ?_); (case hc => first | assumption | exact cmul_small (by constructor <;> omega) (by constructor <;> omega)))
  | (with_reducible refine' v_I0i ?_)
  | (with_reducible refine' v_I0b ?_)
  | (with_reducible refine' v_Ui ?_)
  | (with_reducible refine' w_eqI ?_)
  | (with_reducible refine' w_eqS ?_)
  | (with_reducible refine' w_eqB ?_)
  | (with_reducible refine' w_neI ?_)
  | (with_reducible refine' w_neS ?_)
  | (with_reducible refine' w_neB ?_)
  | (with_reducible refine' v_isN ?_)
  | (with_reducible refine' v_notN ?_)
  | (with_reducible refine' w_inSign ?_)
  | ((with_reducible refine' w_inS ?hs ?_); (case hs => walk_at "sq"))
  | ((with_reducible refine' w_ninS ?hs ?_); (case hs => walk_at "sq"))
  | ((with_reducible refine' w_inI ?hs ?_); (case hs => walk_at "sq"))
  | ((with_reducible refine' w_ninI ?hs ?_); (case hs => walk_at "sq"))
  | ((with_reducible refine' w_addS ?hl ?_); (case hl => walk_at "hl"))
  | ((with_reducible refine' w_catT ?hl ?_); (case hl => walk_at "hl"))
  | ((with_reducible refine' w_slS ?hl ?_); (case hl => walk_at "hl"))
  | (with_reducible refine' w_slT ?_)
  | ((with_reducible refine' w_slL ?hs (.f ?_)); (case hs => walk_at "sq"))
  | ((with_reducible refine' w_lenS ?hl ?_); (case hl => walk_at "hl"))
  | ((with_reducible refine' w_len ?hs ?_); (case hs => walk_at "sq"))
  | ((with_reducible refine' w_lenD ?hs ?_); (case hs => walk_at "dk"))
  | ((with_reducible refine' v_tupOf ?hs ?_); (case hs => walk_at "sq"))
  | ((with_reducible refine' w_list ?hs (.f ?_)); (case hs => walk_at "sq"))
  | ((with_reducible refine' v_sum ?hs ?_); (case hs => walk_at "sq"))
  | ((with_reducible refine' v_all ?hs ?_); (case hs => walk_at "sq"))
  | ((with_reducible refine' v_any ?hs ?_); (case hs => walk_at "sq"))
  | (with_reducible refine' v_max2 ?_)
  | (with_reducible refine' v_min2 ?_)
  | (with_reducible refine' v_int1 ?_)
  | (with_reducible refine' v_int1b ?_)
  | (with_reducible refine' v_abs ?_)
  | ((with_reducible refine' w_ixT ?he ?_); (case he => walk_at "he"))
  | ((with_reducible refine' w_ixL ?hs ?he ?_); (case hs => walk_at "sq"); (case he => walk_at "he"))
  | ((with_reducible refine' v_app ?hs ?hl ?_); (case hs => walk_at "hc"); (case hl => walk_at "hl"))
  | ((with_reducible refine' v_insert ?hs ?hl ?h0 ?_); (case hs => walk_at "hc"); (case hl => walk_at "hl"); (case h0 => constructor <;> omega))
  | ((with_reducible refine' x_fldV ?hi ?hc ?hn ?hl ?_); (case hi => walk_at "iv"); (case hc => walk_at "cls"); (case hn => walk_at "cls"); (case hl => walk_at "lk"))
  | ((with_reducible refine' x_methV ?hi ?hl ?_); (case hi => walk_at "iv"); (case hl => walk_at "lk"))
  | ((with_reducible refine' x_sfldC ?hs ?hc ?hn ?hl ?_); (case hs => walk_at "hc"); (case hc => walk_at "cls"); (case hn => walk_at "cls"); (case hl => first | simp | (refine Nat.lt_of_le_of_lt putFD_len ?_; simp) | (refine Nat.lt_of_le_of_lt putFD_len (Nat.lt_of_le_of_lt (Nat.succ_le_succ putFD_len) ?_); simp)))
  | ((with_reducible refine' x_inS ?hs ?_); (case hs => walk_at "dk"))
  | ((with_reducible refine' x_inI ?hs ?_); (case hs => walk_at "dk"))
  | ((with_reducible refine' x_getS ?hs ?he ?_); (case hs => walk_at "dk"); (case he => assumption))
  | ((with_reducible refine' x_getI ?hs ?he ?_); (case hs => walk_at "dk"); (case he => assumption))
  | ((with_reducible refine' x_putS ?hs ?hl ?_); (case hs => walk_at "hc"); (case hl => walk_at "hl"))
  | ((with_reducible refine' x_putI ?hs ?hl ?_); (case hs => walk_at "hc"); (case hl => walk_at "hl"))
  | ((with_reducible refine' x_isK ?hs ?_); (case hs => walk_at "dk"))
  | ((with_reducible refine' x_isDV ?hs ?_); (case hs => walk_at "dk")))
/-- fields and dicts read, nothing made -/
local macro_rules | `(tactic| walk_at "dy") => `(tactic| first
  | ((with_reducible refine' x_fldV ?hi ?hc ?hn ?hl ?_); (case hi => walk_at "iv"); (case hc => walk_at "cls"); (case hn => walk_at "cls"); (case hl => walk_at "lk"))
  | ((with_reducible refine' x_methV ?hi ?hl ?_); (case hi => walk_at "iv"); (case hl => walk_at "lk"))
  | ((with_reducible refine' x_getS ?hs ?he ?_); (case hs => walk_at "dk"); (case he => assumption)))
local macro_rules | `(tactic| walk_at "de") => `(tactic| repeat' (first | walk_at "d1" | walk_at "dv" | walk_at "dy"))
local macro_rules | `(tactic| walk_at "dd") => `(tactic| repeat' (first | walk_at "d1" | walk_at "dv" | walk_at "dx"))

/-! ### the law's source, from the heap to data -/
section
variable {K : PySem.W.Frag}
def spLaw (K : PySem.W.Frag) : Sp := fun vs H Q _ => ∃ (a : Addr) (ns : List Int), vs = [.ref a] ∧ SqL K H a (ns.map V.int) ∧ ∀ H', Q (.bl true) H'
def srcH (p la : Addr) : Hs := fun b => if b = p then some (.src la) else if b = la then some .held else none
theorem law_in {u : TS} {XE : XK} {n : Nat} {a : Addr} {ns : List Int} {H : Hp} {E : Ends} {N : List Str} (hN : N.length = n + 2)
    (hS : SqL K H a (ns.map V.int)) (q : ∀ H', E.rt (.bl true) H')
    (z : ∀ p la h, h p = some (.src la) → dS u (endD fun x _ => x = .bl true) (none :: some (.ref p) :: List.replicate n none) h) :
    tSeq (tAsg (tCall (spSource K) [] XE (tCons (tVar 0) tNil)) (gName 1)) u E (L2.start N [.ref a]) H := by
  refine ⟨.ref a, rfl, ?_⟩
  refine ⟨a, ns, rfl, hS, fun p la H' np s src => ?_⟩
  have e1 : srcH p la p = some (.src la) := if_pos rfl
  have e2 : srcH p la la = some .held := by unfold srcH; rw [if_neg src.ne, if_pos rfl]
  have len : (L2.start N [V.ref a]).length = n + 2 := by
    unfold L2.start
    simp only [List.length_append, List.length_map, List.length_replicate, List.length_cons, List.length_nil]
    omega
  have rh : RelH (srcH p la) H' := by
    refine ⟨fun b o e => ?_, fun b lb e => ?_⟩
    · unfold srcH at e
      split at e
      · cases e
        rename_i h
        subst h
        exact src
      · split at e
        · cases e
          rename_i h
          subst h
          obtain ⟨ms, pos, rest, st, k, h1, h2, _⟩ := src.ex
          exact ⟨_, h2⟩
        · cases e
    · unfold srcH at e
      split at e
      · cases e
        exact e2
      · split at e <;> cases e
  refine z p la _ e1 _ H' _ ⟨rh, ?_, fun i d e => ?_⟩ ⟨fun ρ' h' σ' H' q r s => (nomatch q), fun x h' v H' ex dx _ _ => ?_, fun _ _ _ _ q => q.elim, fun _ _ _ _ q => q.elim⟩
  · rw [List.length_set, len]
    simp
  · cases i with
    | zero => cases e
    | succ i =>
      cases i with
      | zero =>
        cases e
        exact ⟨.ref p, List.getElem?_set_self (by rw [len]; omega), .ref p⟩
      | succ i =>
        have e : (List.replicate n (none : Option D))[i]? = some (some d) := e
        rw [List.getElem?_replicate] at e
        split at e <;> cases e
  · subst ex
    cases dx
    exact q _
end

/-! ### the law -/
theorem big_ok {i : Int} (h : i.natAbs ≤ 2 ^ 1894) : (PyData.int i).showable = true ∧ (PyData.int i).intsShort 600 = true := by
  constructor
  · rw [PyData.showable]
    refine decide_eq_true ?_
    by_cases h0 : i.natAbs = 0
    · rw [h0]; decide
    · exact Nat.lt_of_lt_of_le ((Nat.log2_lt (k := 1895) h0).mpr (Nat.lt_of_le_of_lt h (Nat.pow_lt_pow_right (by decide) (by decide)))) (by decide)
  · simp only [PyData.intsShort, decide_eq_true_eq]
    have e := PySem.int_text_length_le10 (k := 599) (by decide) (a := i) (Nat.lt_of_le_of_lt h (by decide +kernel))
    show (Str.ofString (toString i)).length ≤ 600
    rw [PySem.ofString_length]
    exact e
theorem ints_show : ∀ l : IL, (∀ x ∈ l, x.natAbs ≤ 2 ^ 1894) → PyData.showableAll (toPs (intsD l)) = true ∧ PyData.hasDictAll (toPs (intsD l)) = false ∧ PyData.intsShortAll 600 (toPs (intsD l)) = true ∧ PyData.bulkAll (toPs (intsD l)) = l.length
  | [], _ => ⟨rfl, rfl, rfl, rfl⟩
  | a :: l, h => by
    obtain ⟨h1, h2, h3, h4⟩ := ints_show l fun x hx => h x (List.mem_cons_of_mem _ hx)
    obtain ⟨g1, g2⟩ := big_ok (h a (List.mem_cons_self ..))
    show PyData.showableAll (toPs (D.int a :: intsD l)) = true ∧ PyData.hasDictAll (toPs (D.int a :: intsD l)) = false ∧ PyData.intsShortAll 600 (toPs (D.int a :: intsD l)) = true ∧ PyData.bulkAll (toPs (D.int a :: intsD l)) = _
    rw [toPs, PyData.showableAll, PyData.hasDictAll, PyData.intsShortAll, PyData.bulkAll, h1, h2, h3, h4, show toP (D.int a) = PyData.int a from rfl, g1, g2]
    refine ⟨rfl, rfl, rfl, ?_⟩
    rw [PyData.bulk, List.length_cons]
    omega
theorem vecs_show : ∀ S : List IL, (∀ s ∈ S, s.length ≤ 5 ∧ ∀ x ∈ s, x.natAbs ≤ 2 ^ 1894) → PyData.showableAll (toPs (S.map vecD)) = true ∧ PyData.hasDictAll (toPs (S.map vecD)) = false ∧ PyData.intsShortAll 600 (toPs (S.map vecD)) = true ∧ PyData.bulkAll (toPs (S.map vecD)) ≤ S.length * 6
  | [], _ => ⟨rfl, rfl, rfl, Nat.le_refl _⟩
  | a :: S, h => by
    obtain ⟨h1, h2, h3, h4⟩ := vecs_show S fun x hx => h x (List.mem_cons_of_mem _ hx)
    obtain ⟨l5, hx⟩ := h a (List.mem_cons_self ..)
    obtain ⟨g1, g2, g3, g4⟩ := ints_show a hx
    rw [List.map_cons, toPs, PyData.showableAll, PyData.hasDictAll, PyData.intsShortAll, PyData.bulkAll, h1, h2, h3, show vecD a = .tup (intsD a) from rfl, toP, PyData.showable, PyData.hasDict, PyData.intsShort, PyData.bulk, g1, g2, g3, g4]
    refine ⟨rfl, rfl, rfl, ?_⟩
    rw [List.length_cons]
    omega
theorem vecs_sh {S : List IL} (h : ∀ s ∈ S, s.length ≤ 5 ∧ ∀ x ∈ s, x.natAbs ≤ 2 ^ 1894) (hl : S.length ≤ 5) : shOk (.lst (S.map vecD)) := by
  obtain ⟨h1, h2, h3, h4⟩ := vecs_show S h
  obtain ⟨g1, g2, g3⟩ := vecs_ok S
  refine ⟨by rw [okP]; exact g1, by rw [toP, PyData.showable]; exact h1, by rw [toP, PyData.hasDict]; exact h2, by rw [toP, PyData.depth]; omega, ?_⟩
  have := PyData.shown_le_bulk 600 (by decide) (toP (.lst (S.map vecD))) (PyData.leavesShort_of_canLay0 600 _ (by rw [toP, PyData.canLay0]; exact g2) (by rw [toP, PyData.intsShort]; exact h3))
  rw [show (toP (.lst (S.map vecD))).bulk = PyData.bulkAll (toPs (S.map vecD)) from by rw [toP, PyData.bulk]] at this
  omega
theorem bas_of {m : Nat} {S : List IL} (hl : ∀ s ∈ S, s.length = m) (hb : ∀ s ∈ S, Bits 145 s) (h5 : S.length ≤ 5) : ∀ n, n ≤ S.length → (basisL (S.take n)).length ≤ n ∧ BasOk m (basisL (S.take n))
  | 0, _ => by
    rw [List.take_zero]
    exact ⟨Nat.le_refl _, Nat.zero_le _, fun j q e => (nomatch e)⟩
  | n + 1, h => by
    obtain ⟨l1, ok⟩ := bas_of hl hb h5 n (by omega)
    have ev := List.getElem?_eq_getElem (show n < S.length by omega)
    have vm := List.mem_of_getElem? ev
    have hv := hl _ vm
    have bv := hb _ vm
    rw [List.take_succ, ev]
    show (basisL (S.take n ++ [_])).length ≤ n + 1 ∧ BasOk m (basisL (S.take n ++ [_]))
    rw [basisL_snoc]
    generalize S[n] = v at hv bv
    generalize basisL (S.take n) = bs at l1 ok
    have lu := lowL_all ok hv bv
    have bu := (lowL_ok ok hv bv bs.length (Nat.le_refl _)).2
    rw [List.take_length] at bu
    change Bits _ (lowL bs v) at bu
    unfold addL
    cases hp : piv (lowL bs v) with
    | nil => exact ⟨by dsimp only; omega, ok⟩
    | cons p ps =>
      dsimp only
      have pm := piv_mem.mp (show p ∈ piv (lowL bs v) by rw [hp]; exact List.mem_cons_self ..)
      have le : (bs ++ [(p, lowL bs v)]).length = bs.length + 1 := by rw [List.length_append]; rfl
      refine ⟨by rw [le]; omega, by rw [le]; omega, fun j q e => ?_⟩
      rcases Nat.lt_or_ge j bs.length with g | g
      · rw [List.getElem?_append_left g] at e
        exact ok.row j q e
      · rw [List.getElem?_append_right g] at e
        cases q0 : j - bs.length with
        | zero =>
          rw [q0] at e
          cases e
          obtain rfl : j = bs.length := by omega
          exact ⟨by rw [← lu]; exact pm.1, lu, bu.up (xB_cB (by omega))⟩
        | succ k => rw [q0] at e; cases e
theorem pref_of {m : Nat} {S : List IL} (hl : ∀ s ∈ S, s.length = m) (hb : ∀ s ∈ S, Bits 145 s) (h5 : S.length ≤ 5) : PrefOk m S := ⟨fun n hn => (bas_of hl hb h5 n hn).2, hl, hb⟩
section
variable {P : Program} {w : World} {K : PySem.W.Frag} {mg : Str → Option Value} {base : Heap} {e : Env}
theorem sc_law : FnScope ["_law_script", "_law_src", "_law_turn", "_law_width", "_law_rows", "_law_step", "_law_kept", "_law_found", "_law_columns", "_law_free", "_law_place", "_law_row_here", "_law_at", "_law_other", "_law_number", "_law_one", "_law_two"] ["_law_script"] (defScope s_law) :=
  ⟨rfl, rfl, rfl, by decide +kernel, rfl, by decide +kernel, by decide +kernel⟩
theorem ok_law {fl : Addr} {fd : FuncData} (F : Fun K "law" "law" s_law fl fd) (T : Txt K mg e) : FnG P w K mg base CX0 40 fl fd ["_law_script"] (spLaw K) := by
  refine okG F sc_law (fun vs H Q E h => ?_) (fun cdv A outer s H vs Q E hG hr h => ?_)
  · obtain ⟨a, ns, rfl, _⟩ := h
    rfl
  · obtain ⟨a, ns, rfl, hS, kq⟩ := h
    refine ⟨_, (pss_cons (ps_set (i := 1) sc_law.nd rfl (by first | exact Or.inl rfl | exact Or.inr rfl) (pe_callG (ok__law_source T) hG (hr.mono (by first | decide | omega)) (by rfl) T.g__law_source T.F__law_source.kp T.b__law_source .nil pass0 (pa_cons (pv 0) pa_nil)))
  (pss_cons (ps_for PassesOwn.never rfl (pi_range1 (by rfl) T.n_range (pa_cons pe_int pa_nil)) (pg_name (i := 2) sc_law.nd rfl (by first | exact Or.inl rfl | exact Or.inr rfl))
    (pss_cons (ps_asg (pe_tup (pa_cons (pe_op (op_addG (K := K) rfl) pe_int (pe_callG (ok__law_draw T) hG (hr.mono (by first | decide | omega)) (by rfl) T.g__law_draw T.F__law_draw.kp T.b__law_draw .nil pass0 (pa_cons (pv 1) (pa_cons pe_int pa_nil)))) (pa_cons (pe_lst pa_nil) pa_nil))) (pg_seqK (K := K) rfl rfl (pgs_cons (pg_name (i := 3) sc_law.nd rfl (by first | exact Or.inl rfl | exact Or.inr rfl)) (pgs_cons (pg_name (i := 4) sc_law.nd rfl (by first | exact Or.inl rfl | exact Or.inr rfl)) pgs_nil))))
      (pss_cons (ps_for PassesOwn.never rfl (pi_range1 (by rfl) T.n_range (pa_cons (pe_callG (ok__law_draw T) hG (hr.mono (by first | decide | omega)) (by rfl) T.g__law_draw T.F__law_draw.kp T.b__law_draw .nil pass0 (pa_cons (pv 1) (pa_cons pe_int pa_nil))) pa_nil)) (pg_name (i := 5) sc_law.nd rfl (by first | exact Or.inl rfl | exact Or.inr rfl))
        (pss_one (ps_expr (pe_bmK (K := K) rfl PySem.F.plainAttrs_list PySem.F.slot_list_append PySem.F.type_list_append mt_app (pv 4) (pa_cons (pe_callG (ok__law_row T) hG (hr.mono (by first | decide | omega)) (by rfl) T.g__law_row T.F__law_row.kp T.b__law_row .nil pass0 (pa_cons (pv 1) (pa_cons (pv 4) (pa_cons (pv 3) pa_nil)))) pa_nil)))))
      (pss_cons (ps_par (i := 6) (j := 7) (by rfl) sc_law.nd rfl rfl (by decide) rfl rfl (pa_cons (pe_callTy (call_listA (K := K) rfl rfl) (by rfl) T.n_list (by decide +kernel) (pa_cons (pv 4) pa_nil)) (pa_cons (pe_callG (ok_null_rows T) hG (hr.mono (by first | decide | omega)) (by rfl) T.g_null_rows T.F_null_rows.kp T.b_null_rows .nil pass0 (pa_cons (pv 4) (pa_cons (pv 3) pa_nil))) pa_nil)) (by rfl))
      (pss_cons (ps_if (pt_not (pt_val (pe_callG (ok__law_same T) hG (hr.mono (by first | decide | omega)) (by rfl) T.g__law_same T.F__law_same.kp T.b__law_same .nil pass0 (pa_cons (pe_callG (ok_null_rows T) hG (hr.mono (by first | decide | omega)) (by rfl) T.g_null_rows T.F_null_rows.kp T.b_null_rows .nil pass0 (pa_cons (pe_callTy (call_tupleK (K := K) rfl) (by rfl) T.n_tuple (by decide +kernel) (pa_cons (pe_lc (own := [("_law_row_here", 11)]) (g := (gName 11)) (tt := tYes) rfl sc_law.nd (pi_seqK (K := K) rfl (pv 4)) (blkOk_by (own := [("_law_row_here", 11)]) (N := ["_law_script", "_law_src", "_law_turn", "_law_width", "_law_rows", "_law_step", "_law_kept", "_law_found", "_law_columns", "_law_free", "_law_place", "_law_row_here", "_law_at", "_law_other", "_law_number", "_law_one", "_law_two"]) (sc := defScope (top 19)) (by decide +kernel)) (fun _ _ _ _ _ => (pg_name (i := 11) sc_law.nd rfl (by first | exact Or.inl rfl | exact Or.inr rfl))) (fun _ _ _ _ _ => pts_nil) (fun _ _ _ _ _ => (pe_callTy (call_listA (K := K) rfl rfl) (by rfl) T.n_list (by decide +kernel) (pa_cons (pv 11) pa_nil)))) pa_nil)) (pa_cons (pv 3) pa_nil))) (pa_cons (pv 7) pa_nil)))))
        (pss_one (ps_ret pe_bl))
        pss_nil)
      (pss_cons (ps_set (i := 8) sc_law.nd rfl (by first | exact Or.inl rfl | exact Or.inr rfl) (pe_lc (own := [("_law_at", 12)]) (g := (gName 12)) (tt := tYes) rfl sc_law.nd (pi_range1 (by rfl) T.n_range (pa_cons (pv 3) pa_nil)) (blkOk_by (own := [("_law_at", 12)]) (N := ["_law_script", "_law_src", "_law_turn", "_law_width", "_law_rows", "_law_step", "_law_kept", "_law_found", "_law_columns", "_law_free", "_law_place", "_law_row_here", "_law_at", "_law_other", "_law_number", "_law_one", "_law_two"]) (sc := defScope (top 19)) (by decide +kernel)) (fun _ _ _ _ _ => (pg_name (i := 12) sc_law.nd rfl (by first | exact Or.inl rfl | exact Or.inr rfl))) (fun _ _ _ _ _ => pts_nil) (fun _ _ _ _ _ => (pe_callTy (call_tupleK (K := K) rfl) (by rfl) T.n_tuple (by decide +kernel) (pa_cons (pe_lc (own := [("_law_row_here", 11)]) (g := (gName 11)) (tt := tYes) rfl sc_law.nd (pi_seqK (K := K) rfl (pv 4)) (by (try dsimp only [cxOf, Cx.nox, Cx.wish, Cx.blk, compEnvC]); exact blk_nest (psc := defScope (top 19)) rfl (by decide +kernel)) (fun _ _ _ _ _ => (pg_name (i := 11) sc_law.nd rfl (by first | exact Or.inl rfl | exact Or.inr rfl))) (fun _ _ _ _ _ => pts_nil) (fun _ _ _ _ _ => (pe_ix (ix_seqK (K := K) rfl) (pv 11) (pv 12) (fun _ _ => rfl)))) pa_nil)))))
      (pss_cons (ps_setLc (i := 9) (own := [("_law_at", 12)]) (g := (gName 12)) rfl sc_law.nd rfl rfl (sw_true rfl rfl rfl (by decide +kernel)) (pi_range1 (by rfl) T.n_range (pa_cons (pv 3) pa_nil)) (blkOk_by (own := [("_law_at", 12)]) (N := ["_law_script", "_law_src", "_law_turn", "_law_width", "_law_rows", "_law_step", "_law_kept", "_law_found", "_law_columns", "_law_free", "_law_place", "_law_row_here", "_law_at", "_law_other", "_law_number", "_law_one", "_law_two"]) (sc := defScope (top 19)) (by decide +kernel)) (fun _ _ _ _ _ => (pg_name (i := 12) sc_law.nd rfl (by first | exact Or.inl rfl | exact Or.inr rfl))) (fun _ _ _ _ _ => pts_one (pt_val (pe_callG (ok__law_depends T) hG (hr.mono (by first | decide | omega)) (by rfl) T.g__law_depends T.F__law_depends.kp T.b__law_depends .nil pass0 (pa_cons (pe_ix (ix_seqK (K := K) rfl) (pv 8) (pv 12) (fun _ _ => rfl)) (pa_cons (pe_slice (sl_G (K := K) rfl) (pv 8) po_none (po_some (pv 12))) pa_nil))))) (fun _ _ _ _ _ => (pv 12)) (by intro _; rfl))
      (pss_cons (ps_if (PW.pt (pw_or (pt_not (pt_val (pe_callB (call_isiK (K := K) rfl) (by rfl) T.n_isinstance (by decide +kernel) (pa_cons (pv 7) (pa_cons (pe_bltn (v := .ty "list") (by rfl) T.n_list (by decide +kernel) rfl) pa_nil))))) (pw_or (pt_cmpR (op_neG (K := K) rfl hr.units) (pe_callB (call_lenA (K := K) rfl) (by rfl) T.n_len (by decide +kernel) (pa_cons (pv 7) pa_nil)) (pe_callB (call_lenA (K := K) rfl) (by rfl) T.n_len (by decide +kernel) (pa_cons (pv 9) pa_nil)) (nomark _)) (pw_or1 (pt_cmpR (op_neG (K := K) rfl hr.units) (pv 4) (pv 6) (nomark _))))))
        (pss_one (ps_ret pe_bl))
        pss_nil)
      (pss_one (ps_for PassesOwn.never rfl (pi_zipG (K := K) rfl (by rfl) T.n_zip (pa_cons (pv 9) (pa_cons (pv 7) pa_nil))) (pg_seqK (K := K) rfl rfl (pgs_cons (pg_name (i := 10) sc_law.nd rfl (by first | exact Or.inl rfl | exact Or.inr rfl)) (pgs_cons (pg_name (i := 11) sc_law.nd rfl (by first | exact Or.inl rfl | exact Or.inr rfl)) pgs_nil)))
        (pss_cons (ps_if (PW.pt (pw_or (pt_not (pt_val (pe_callB (call_isiK (K := K) rfl) (by rfl) T.n_isinstance (by decide +kernel) (pa_cons (pv 11) (pa_cons (pe_bltn (v := .ty "tuple") (by rfl) T.n_tuple (by decide +kernel) rfl) pa_nil))))) (pw_or (pt_cmpR (op_neG (K := K) rfl hr.units) (pe_callB (call_lenA (K := K) rfl) (by rfl) T.n_len (by decide +kernel) (pa_cons (pv 11) pa_nil)) (pv 3) (nomark _)) (pw_or1 (pt_not (pt_val (pe_callB (cr_allK (K := K) rfl rfl) (by rfl) T.n_all (by decide +kernel) (pa_cons (pe_lc (own := [("_law_number", 14)]) (g := (gName 14)) (tt := tYes) rfl sc_law.nd (pi_seqK (K := K) rfl (pv 11)) (blkOk_by (own := [("_law_number", 14)]) (N := ["_law_script", "_law_src", "_law_turn", "_law_width", "_law_rows", "_law_step", "_law_kept", "_law_found", "_law_columns", "_law_free", "_law_place", "_law_row_here", "_law_at", "_law_other", "_law_number", "_law_one", "_law_two"]) (sc := defScope (top 19)) (by decide +kernel)) (fun _ _ _ _ _ => (pg_name (i := 14) sc_law.nd rfl (by first | exact Or.inl rfl | exact Or.inr rfl))) (fun _ _ _ _ _ => pts_nil) (fun _ _ _ _ _ => (pe_callG (ok__law_is_integer T) hG (hr.mono (by first | decide | omega)) (by rfl) T.g__law_is_integer T.F__law_is_integer.kp T.b__law_is_integer .nil pass0 (pa_cons (pv 14) pa_nil)))) pa_nil))))))))
            (pss_one (ps_ret pe_bl))
            pss_nil)
          (pss_cons (ps_if (PW.pt (pw_or (pt_cmpR op_lt (pe_ix (ix_seqK (K := K) rfl) (pv 11) (pv 10) (fun _ _ => rfl)) pe_int (nomark _)) (pw_or (pt_cmpR (op_neG (K := K) rfl hr.units) (pe_callG (ok__law_common T) hG (hr.mono (by first | decide | omega)) (by rfl) T.g__law_common T.F__law_common.kp T.b__law_common .nil pass0 (pa_cons (pv 11) pa_nil)) pe_int (nomark _)) (pw_or1 (pt_val (pe_callB (cr_anyK (K := K) rfl rfl) (by rfl) T.n_any (by decide +kernel) (pa_cons (pe_lc (own := [("_law_at", 12)]) (g := (gName 12)) rfl sc_law.nd (pi_seqK (K := K) rfl (pv 9)) (blkOk_by (own := [("_law_at", 12)]) (N := ["_law_script", "_law_src", "_law_turn", "_law_width", "_law_rows", "_law_step", "_law_kept", "_law_found", "_law_columns", "_law_free", "_law_place", "_law_row_here", "_law_at", "_law_other", "_law_number", "_law_one", "_law_two"]) (sc := defScope (top 19)) (by decide +kernel)) (fun _ _ _ _ _ => (pg_name (i := 12) sc_law.nd rfl (by first | exact Or.inl rfl | exact Or.inr rfl))) (fun _ _ _ _ _ => pts_one (pt_cmpR (op_neG (K := K) rfl hr.units) (pv 12) (pv 10) (nomark _))) (fun _ _ _ _ _ => (pe_cmpR (op_neG (K := K) rfl hr.units) (pe_ix (ix_seqK (K := K) rfl) (pv 11) (pv 12) (fun _ _ => rfl)) pe_int (nomark _)))) pa_nil)))))))
            (pss_one (ps_ret pe_bl))
            pss_nil)
          (pss_one (ps_if (pt_val (pe_callB (cr_anyK (K := K) rfl rfl) (by rfl) T.n_any (by decide +kernel) (pa_cons (pe_lc (own := [("_law_other", 13)]) (g := (gName 13)) (tt := tYes) rfl sc_law.nd (pi_seqK (K := K) rfl (pv 4)) (blkOk_by (own := [("_law_other", 13)]) (N := ["_law_script", "_law_src", "_law_turn", "_law_width", "_law_rows", "_law_step", "_law_kept", "_law_found", "_law_columns", "_law_free", "_law_place", "_law_row_here", "_law_at", "_law_other", "_law_number", "_law_one", "_law_two"]) (sc := defScope (top 19)) (by decide +kernel)) (fun _ _ _ _ _ => (pg_name (i := 13) sc_law.nd rfl (by first | exact Or.inl rfl | exact Or.inr rfl))) (fun _ _ _ _ _ => pts_nil) (fun _ _ _ _ _ => (pe_cmpR (op_neG (K := K) rfl hr.units) (pe_callB (cr_sumK (K := K) rfl rfl) (by rfl) T.n_sum (by decide +kernel) (pa_cons (pe_lc (own := [("_law_one", 15), ("_law_two", 16)]) (g := (gSeq K 2 (gCons (gName 15) (gCons (gName 16) gNil)))) (tt := tYes) rfl sc_law.nd (pi_zipG (K := K) rfl (by rfl) T.n_zip (pa_cons (pv 11) (pa_cons (pv 13) pa_nil))) (by (try dsimp only [cxOf, Cx.nox, Cx.wish, Cx.blk, compEnvC]); exact blk_nest (psc := defScope (top 19)) rfl (by decide +kernel)) (fun _ _ _ _ _ => (pg_seqK (K := K) rfl rfl (pgs_cons (pg_name (i := 15) sc_law.nd rfl (by first | exact Or.inl rfl | exact Or.inr rfl)) (pgs_cons (pg_name (i := 16) sc_law.nd rfl (by first | exact Or.inl rfl | exact Or.inr rfl)) pgs_nil)))) (fun _ _ _ _ _ => pts_nil) (fun _ _ _ _ _ => (pe_op (op_mulG (K := K) rfl) (pv 15) (pv 16)))) pa_nil)) pe_int (nomark _)))) pa_nil)))
            (pss_one (ps_ret pe_bl))
            pss_nil))))))))))))))
  (pss_one (ps_ret (pe_callG (ok__law_same T) hG (hr.mono (by first | decide | omega)) (by rfl) T.g__law_same T.F__law_same.kp T.b__law_same .nil pass0 (pa_cons (pe_callG (ok_null_rows T) hG (hr.mono (by first | decide | omega)) (by rfl) T.g_null_rows T.F_null_rows.kp T.b_null_rows .nil pass0 (pa_cons (pe_lst pa_nil) (pa_cons pe_int pa_nil))) (pa_cons (pe_lst (pa_cons (pe_tup (pa_cons pe_int (pa_cons pe_int pa_nil))) (pa_cons (pe_tup (pa_cons pe_int (pa_cons pe_int pa_nil))) pa_nil))) pa_nil))))))), ?_⟩
    try dsimp only [cxOf, Cx.nox, Cx.wish]
    refine law_in (n := 15) rfl hS kq fun p la h ea => ?_
    clear kq hS
    walk_at "dd"
    refine for_D [2, 3, 4, 5, 6, 7, 8, 9, 10, 11, 12, 13, 14, 15, 16] (List.range 4) natD rfl (fun i ρ h' => ρ = [none, some (.ref p), none, none, none, none, none, none, none, none, none, none, none, none, none, none, none] ∧ h' = h) ⟨rfl, rfl⟩ (fun _ _ _ _ _ => trivial) ?_ ?_
    · rintro i x ρ h' ei ⟨rfl, rfl⟩
      walk_at "dd"
      refine ⟨p, la, 5, rfl, ea, by decide, by decide, fun wz wz0 wz1 => ?_⟩
      obtain ⟨w1, rfl⟩ := Int.eq_ofNat_of_zero_le wz0
      walk_at "dd"
      rw [show ((1 : Int) + (w1 : Int)) = ((1 + w1 : Nat) : Int) from by omega]
      obtain ⟨w, ew⟩ : ∃ w, w = 1 + w1 := ⟨_, rfl⟩
      rw [← ew]
      have w5 : w ≤ 5 := by omega
      have wp : 1 ≤ w := by omega
      clear ew
      walk_at "dd"
      refine d_lstC (d_nil ⟨by decide, fun rc nrc => ?_⟩)
      have pr : p ≠ rc := h_ne ea nrc
      have ea1 : ∀ {o}, seth h' rc o p = some (.src la) := (seth_ne pr).trans ea
      walk_at "dd"
      refine ⟨p, la, 7, rfl, ea1, by decide, by decide, fun mz mz0 mz1 => ?_⟩
      obtain ⟨m, rfl⟩ := Int.eq_ofNat_of_zero_le mz0
      walk_at "dd"
      refine for_D [5] (List.range m) natD (rngD_nat m) (fun i ρ h2 => ∃ A : List IL, ρ = [none, some (.ref p), some (natD x), some (.int (w : Int)), some (.ref rc), none, none, none, none, none, none, none, none, none, none, none, none] ∧ h2 = seth h' rc (.lst (A.map vecD)) ∧ A.length = i ∧ (∀ a ∈ A, a.length = w) ∧ ∀ a ∈ A, Bits (100 + 4 * i) a) ⟨[], rfl, rfl, rfl, fun a h => (nomatch h), fun a h => (nomatch h)⟩ (fun _ _ _ _ _ => trivial) ?_ ?_
      · rintro i2 y ρ h2 ei2 ⟨A, rfl, rfl, lA, wA, bA⟩
        have im : i2 < m := by have := (List.getElem?_eq_some_iff.mp ei2).1; rwa [List.length_range] at this
        walk_at "dd"
        refine ⟨p, la, _, _, A, w, 100 + 4 * i2, rfl, .c seth_same, .c seth_same, ea1, by omega, w5, wA, by omega, by omega, bA, fun v lv bv => ?_⟩
        have lA2 : (A.map vecD).length ≤ 1000 := by rw [List.length_map]; omega
        walk_at "dd"
        refine ⟨A ++ [v], rfl, ?_, by rw [List.length_append, lA]; rfl, fun a ha => ?_, fun a ha => ?_⟩
        · rw [seth_seth, List.map_append]
          rfl
        · rcases List.mem_append.mp ha with h | h
          · exact wA a h
          · rw [List.mem_singleton.mp h]; exact lv
        · rcases List.mem_append.mp ha with h | h
          · exact (bA a h).up (by omega)
          · rw [List.mem_singleton.mp h]; exact bv.up (by omega)
      · rintro ρ h2 ⟨A, rfl, rfl, lA, wA, bA⟩
        rw [List.length_range] at lA bA
        refine dS_frz (i := 4) (x := .ref rc) rfl (.lst seth_same .id) ?_
        rw [delh_seth nrc]
        walk_at "dd"
        have b125 : ∀ a ∈ A, Bits 125 a := fun a ha => (bA a ha).up (by omega)
        have L := lead_ok wA b125
        refine ⟨_, vecD, A, w, rfl, ⟨.inr rfl, fun a => .inl rfl, by omega, w5, wA, b125⟩, .f ?_⟩
        walk_at "dd"
        refine lc_map A vecD (fun a => D.lst (intsD a)) rfl (by omega) .t ?_ (.f ?_)
        · intro pa acc j a np ea'
          walk_at "dd"
          first | done | rfl | exact ⟨rfl, rfl⟩
        walk_at "dd"
        refine ⟨_, (fun a => D.lst (intsD a)), A, w, rfl, ⟨.inl rfl, fun a => .inr rfl, by omega, w5, wA, b125⟩, .f ?_⟩
        have nf : ∀ s ∈ nulls w A, s.length ≤ 5 ∧ ∀ x ∈ s, x.natAbs ≤ 2 ^ 1894 := fun s hs => by
          obtain ⟨q, hq, rfl⟩ := List.mem_map.mp hs
          obtain ⟨q1, q2⟩ := mem_frees.mp hq
          exact ⟨by rw [(L.nok q1 q2).len]; exact w5, L.small q1 q2 w5 b125⟩
        have fl : (frees w (echA w A)).length ≤ w := by
          unfold frees
          have := List.length_filter_le (fun i => decide (i ∉ (echA w A).map (·.1))) (List.range w)
          rwa [List.length_range] at this
        have sh := vecs_sh nf (by unfold nulls; rw [List.length_map]; omega)
        clear nf
        unfold nulls at sh ⊢
        generalize echA w A = ld at L fl sh
        obtain ⟨NS, eNS⟩ : ∃ NS, NS = D.lst (((frees w ld).map fun p => nrow w p ld).map vecD) := ⟨_, rfl⟩
        rw [← eNS] at sh ⊢
        walk_at "dd"
        refine ⟨_, _, rfl, sh, sh, ?_⟩
        walk_at "dd"
        refine ite_f (congrArg not (decide_eq_true rfl)) ?_
        rw [List.map_map] at eNS
        subst eNS
        clear sh
        walk_at "dd"
        refine lc_map (List.range w) natD (fun i => vecD (col A i)) (rngD_nat w) (by rw [List.length_range]; omega) .t ?_ (.f ?_)
        · intro pa acc j i np ej
          have hi : i < w := List.mem_range.mp (List.mem_of_getElem? ej)
          walk_at "dd"
          refine lc_map A vecD (fun a => .int (at0 a i)) rfl (by omega) .t ?_ (.f ?_)
          · intro pb acc2 j2 a np2 ea2
            have fa := ints_at (l := a) (i := i) (by rw [wA a (List.mem_of_getElem? ea2)]; exact hi)
            unfold vecD
            walk_at "dd"
            first | done | rfl | exact ⟨rfl, rfl⟩
          walk_at "dd"
          unfold vecD intsD col
          rw [List.map_map]
          rfl
        walk_at "dd"
        refine lc_flt (List.range w) natD (fun i => decide (i ∉ ld.map (·.1))) natD (rngD_nat w) (by rw [List.length_range]; omega) .t ?_ (.f ?_)
        · intro pa acc j i np ej
          have hi : i < w := List.mem_range.mp (List.mem_of_getElem? ej)
          have fc : ((List.range w).map fun i => vecD (col A i))[i]? = some (vecD (col A i)) := by rw [List.getElem?_map, List.getElem?_range hi]; rfl
          walk_at "dd"
          rw [dcut_take, ← List.map_take, List.take_range, Nat.min_eq_left (by omega), show (List.range i).map (fun i => vecD (col A i)) = ((List.range i).map (col A)).map vecD from by rw [List.map_map]; rfl]
          have cl : ∀ k, (col A k).length = A.length := fun k => List.length_map _
          have cb : ∀ k, Bits 145 (col A k) := fun k z hz => by
            obtain ⟨a, ha, rfl⟩ := List.mem_map.mp hz
            exact ((b125 a ha).up (show 125 ≤ 145 by decide)).at k
          have pf : PrefOk A.length ((List.range i).map (col A)) := pref_of (fun s hs => by obtain ⟨k, _, rfl⟩ := List.mem_map.mp hs; exact cl k) (fun s hs => by obtain ⟨k, _, rfl⟩ := List.mem_map.mp hs; exact cb k) (by rw [List.length_map, List.length_range]; omega)
          refine ⟨A.length, _, col A i, _, rfl, pf, by omega, by rw [List.length_map, List.length_range]; omega, cl i, cb i, .inr rfl, ?_⟩
          have fr := L.free hi
          have ep : (piv (lowL (basisL ((List.range i).map (col A))) (col A i))).isEmpty = decide (i ∉ ld.map (·.1)) := by
            rw [Bool.eq_iff_iff, List.isEmpty_iff, decide_eq_true_eq, ← fr]
            exact piv_nil
          rw [ep]
          refine ⟨_, rfl, rfl, rfl, fun _ => ?_⟩
          walk_at "dd"
          first | done | rfl | exact ⟨rfl, rfl⟩
        walk_at "dd"
        refine d_cTy ?_
        walk_at "dd"
        refine v_isiG (n := "list") (m := "list") (b := true) rfl (by rfl) ?_
        walk_at "dd"
        refine ite_f rfl ?_
        walk_at "dd"
        rw [show (List.range w).filter (fun i => decide (i ∉ ld.map (·.1))) = frees w ld from rfl, List.length_map, List.length_map]
        refine ite_f (by simp) ?_
        walk_at "dd"
        refine w_neD (vecs_cmp A) (vecs_cmp A) ?_
        rw [show PyData.eqv (toP (.lst (A.map vecD))) (toP (.lst (A.map vecD))) = true from SeqAt.eqv_refl _ (by rw [toP, PyData.canLay0]; exact (vecs_ok A).2.1)]
        walk_at "dd"
        refine ite_f rfl ?_
        walk_at "dd"
        refine i_zipLL ?_
        walk_at "dd"
        refine ⟨_, _, rfl, ?_⟩
        rw [prs_same]
        refine for_P [10, 11, 12, 13, 14, 15, 16] (frees w ld) (fun p => .tup [natD p, vecD (nrow w p ld)]) rfl (fun pre ρ h2 => ρ = [none, some (.ref p), some (natD x), some (.int (w : Int)), some (.lst (A.map vecD)), none, some (.lst (A.map vecD)), some (.lst ((frees w ld).map fun p => vecD (nrow w p ld))), some (.lst ((List.range w).map fun i => vecD (col A i))), some (.lst ((frees w ld).map natD)), none, none, none, none, none, none, none] ∧ h2 = h') ⟨rfl, rfl⟩ (fun _ _ _ _ => trivial) ?_ ?_
        · rintro pre q post ρ h2 el ⟨rfl, rfl⟩
          have qm : q ∈ frees w ld := by rw [el]; exact List.mem_append_right _ (List.mem_cons_self ..)
          obtain ⟨q1, q2⟩ := mem_frees.mp qm
          have N := L.nok q1 q2
          have sm := L.small q1 q2 w5 b125
          generalize nrow w q ld = v at N sm
          rw [show vecD v = D.tup (intsD v) from rfl]
          have lv := N.len
          walk_at "dd"
          refine d_cTy ?_
          walk_at "dd"
          refine v_isiT ?_
          walk_at "dd"
          refine ite_f rfl ?_
          walk_at "dd"
          rw [ints_len, lv]
          refine ite_f (by simp) ?_
          walk_at "dd"
          refine lc_map v D.int (fun _ => .bl true) rfl (by omega) .t ?_ (.f ?_)
          · intro pa acc j y np ej
            walk_at "dd"
            refine ⟨y, rfl, ?_⟩
            first | done | rfl | exact ⟨rfl, rfl⟩
          walk_at "dd"
          refine v_all (bs := v.map fun _ => true) (by rw [List.map_map]; exact .f) ?_
          walk_at "dd"
          refine ite_f (by simp) ?_
          have fq := ints_at (l := v) (i := q) (by omega)
          have p1 := N.place
          walk_at "dd"
          refine ite_f (decide_eq_false (by omega)) ?_
          walk_at "dd"
          refine ⟨_, v, rfl, .inl rfl, by omega, ?_⟩
          rw [N.cm]
          walk_at "dd"
          refine ite_f (by decide) ?_
          walk_at "dd"
          refine lc_flt (frees w ld) natD (fun i => decide (i ≠ q)) (fun i => .bl (!decide (at0 v i = 0))) rfl (by omega) .t ?_ (.f ?_)
          · intro pa acc j i np ej
            obtain ⟨i1, i2⟩ := mem_frees.mp (List.mem_of_getElem? ej)
            have fi := ints_at (l := v) (i := i) (by omega)
            walk_at "dd"
            refine ⟨by simp <;> omega, fun _ => ?_⟩
            walk_at "dd"
            first | done | rfl | exact ⟨rfl, rfl⟩
          walk_at "dd"
          refine v_any (bs := ((frees w ld).filter fun i => decide (i ≠ q)).map fun i => !decide (at0 v i = 0)) (by rw [List.map_map]; exact .f) ?_
          rw [show (((frees w ld).filter fun i => decide (i ≠ q)).map fun i => !decide (at0 v i = 0)).any id = false from by
            rw [List.any_eq_false]
            intro b hb
            obtain ⟨i, hi, rfl⟩ := List.mem_map.mp hb
            obtain ⟨i1, i2⟩ := List.mem_filter.mp hi
            rw [N.rest i (of_decide_eq_true i2) (mem_frees.mp i1).2]
            decide]
          walk_at "dd"
          refine ite_f rfl ?_
          walk_at "dd"
          refine lc_map A vecD (fun _ => .bl false) rfl (by omega) .t ?_ (.f ?_)
          · intro pa acc j a np ej
            have am := List.mem_of_getElem? ej
            have la := wA a am
            have ba := b125 a am
            have nz := N.null a am
            rw [show vecD a = D.tup (intsD a) from rfl]
            walk_at "dd"
            refine i_zipTT ?_
            walk_at "dd"
            refine ⟨_, _, rfl, ?_⟩
            rw [ints_zip]
            refine lc_map (v.zip a) (fun q => .tup [.int q.1, .int q.2]) (fun q => .int (q.1 * q.2)) rfl (by rw [List.length_zip]; omega) .t ?_ (.f ?_)
            · intro pb acc2 j2 q np2 eq'
              obtain ⟨m1, m2⟩ := List.getElem?_zip_eq_some.mp eq'
              have c1 : CMulW q.1 q.2 := mulw (a := 1895) (b := 125) (Nat.lt_of_le_of_lt (sm _ (List.mem_of_getElem? m1)) (Nat.pow_lt_pow_right (by decide) (by decide))) (ba _ (List.mem_of_getElem? m2)) (by decide) (by decide)
              walk_at "dd"
              rfl
            walk_at "dd"
            refine v_sum (ns := (v.zip a).map fun q => q.1 * q.2) (by rw [List.map_map]; exact .f) ?_
            rw [show ((v.zip a).map fun q => q.1 * q.2).sum = 0 from by
              rw [List.map_zip_eq_zipWith]
              have := sum_zip v a (lv.trans la.symm)
              rw [lv] at this
              exact this.trans nz]
            walk_at "dd"
            first | done | rfl | exact ⟨rfl, rfl⟩
          walk_at "dd"
          refine v_any (bs := A.map fun _ => false) (by rw [List.map_map]; exact .f) ?_
          rw [show (A.map fun _ => false).any id = false from by
            rw [List.any_eq_false]
            intro b hb
            obtain ⟨i, hi, rfl⟩ := List.mem_map.mp hb
            decide]
          walk_at "dd"
          refine ite_f rfl ?_
          walk_at "dd"
          exact ⟨rfl, rfl⟩
        · rintro ρ h2 ⟨rfl, rfl⟩
          walk_at "dd"
          exact ⟨rfl, rfl⟩
    · rintro ρ h' ⟨rfl, rfl⟩
      walk_at "dd"
      refine d_lst ?_
      walk_at "dd"
      refine ⟨_, vecD, [], 2, rfl, ⟨.inr rfl, fun a => .inl rfl, by decide, by decide, fun a h => (nomatch h), fun a h => (nomatch h)⟩, .f ?_⟩
      walk_at "dd"
      refine d_lst ?_
      walk_at "dd"
      rw [show nulls 2 [] = [[1, 0], [0, 1]] from by decide +kernel]
      have sh := vecs_sh (S := [[1, 0], [0, 1]]) (by decide +kernel) (by decide)
      obtain ⟨NS, eNS⟩ : ∃ NS, NS = D.lst ([[1, 0], [0, 1]].map vecD) := ⟨_, rfl⟩
      rw [← eNS] at sh
      refine ⟨NS, NS, by rw [eNS]; rfl, sh, sh, ?_⟩
      walk_at "dd"
      rw [decide_eq_true rfl]
      exact frz0 rfl
end
end Toy

set_option Elab.async false
set_option linter.all false
set_option maxRecDepth 100000
set_option maxHeartbeats 4000000
namespace Toy
open PySem L2 GX PySem.Spec TL
/-! ### the head -/
theorem all_mk {l : PySem.W.OpenLaw} {w : World} {K : PySem.W.Frag} {h : Heap} {mg : Str → Option Value} {fa : Addr} (X : K.In h) (G : h.Ns mainGlobals mg) (hfa : mg "law" = some (.ref fa))
    {f0 : Addr} {od0 an0 : Option Addr} {sl0 : Array (Option Value)} {oc0 kV0 dc0 pm0 cd0 ct0 : Value}
    {f1 : Addr} {od1 an1 : Option Addr} {sl1 : Array (Option Value)} {oc1 kV1 dc1 pm1 cd1 ct1 : Value}
    {f2 : Addr} {od2 an2 : Option Addr} {sl2 : Array (Option Value)} {oc2 kV2 dc2 pm2 cd2 ct2 : Value}
    {f3 : Addr} {od3 an3 : Option Addr} {sl3 : Array (Option Value)} {oc3 kV3 dc3 pm3 cd3 ct3 : Value}
    {f4 : Addr} {od4 an4 : Option Addr} {sl4 : Array (Option Value)} {oc4 kV4 dc4 pm4 cd4 ct4 : Value}
    {f5 : Addr} {od5 an5 : Option Addr} {sl5 : Array (Option Value)} {oc5 kV5 dc5 pm5 cd5 ct5 : Value}
    {f6 : Addr} {od6 an6 : Option Addr} {sl6 : Array (Option Value)} {oc6 kV6 dc6 pm6 cd6 ct6 : Value}
    {f7 : Addr} {od7 an7 : Option Addr} {sl7 : Array (Option Value)} {oc7 kV7 dc7 pm7 cd7 ct7 : Value}
    {f8 : Addr} {od8 an8 : Option Addr} {sl8 : Array (Option Value)} {oc8 kV8 dc8 pm8 cd8 ct8 : Value}
    {f9 : Addr} {od9 an9 : Option Addr} {sl9 : Array (Option Value)} {oc9 kV9 dc9 pm9 cd9 ct9 : Value}
    {f10 : Addr} {od10 an10 : Option Addr} {sl10 : Array (Option Value)} {oc10 kV10 dc10 pm10 cd10 ct10 : Value}
    {f11 : Addr} {od11 an11 : Option Addr} {sl11 : Array (Option Value)} {oc11 kV11 dc11 pm11 cd11 ct11 : Value}
    {f12 : Addr} {od12 an12 : Option Addr} {sl12 : Array (Option Value)} {oc12 kV12 dc12 pm12 cd12 ct12 : Value}
    {f13 : Addr} {od13 an13 : Option Addr} {sl13 : Array (Option Value)} {oc13 kV13 dc13 pm13 cd13 ct13 : Value}
    {f14 : Addr} {od14 an14 : Option Addr} {sl14 : Array (Option Value)} {oc14 kV14 dc14 pm14 cd14 ct14 : Value}
    {f15 : Addr} {od15 an15 : Option Addr} {sl15 : Array (Option Value)} {oc15 kV15 dc15 pm15 cd15 ct15 : Value}
    {f16 : Addr} {od16 an16 : Option Addr} {sl16 : Array (Option Value)} {oc16 kV16 dc16 pm16 cd16 ct16 : Value}
    {f17 : Addr} {od17 an17 : Option Addr} {sl17 : Array (Option Value)} {oc17 kV17 dc17 pm17 cd17 ct17 : Value}
    (a0 : PySem.W.nsIn K mainGlobals "_law_source" = some (some (.ref f0)))
    (l0 : K.lookup f0 = some ⟨oc0, od0, .func (PySem.W.fnOf "_law_source" "_law_source" (defArgs s__law_source) (defBody s__law_source) (defScope s__law_source) .none kV0 dc0 pm0 an0 cd0 ct0), sl0⟩) (c0 : PySem.W.codeIn K cd0 "_law_source" = true) (k0 : PySem.W.keepIn K (.ref f0) = true)
    (a1 : PySem.W.nsIn K mainGlobals "_law_draw" = some (some (.ref f1)))
    (l1 : K.lookup f1 = some ⟨oc1, od1, .func (PySem.W.fnOf "_law_draw" "_law_draw" (defArgs s__law_draw) (defBody s__law_draw) (defScope s__law_draw) .none kV1 dc1 pm1 an1 cd1 ct1), sl1⟩) (c1 : PySem.W.codeIn K cd1 "_law_draw" = true) (k1 : PySem.W.keepIn K (.ref f1) = true)
    (a2 : PySem.W.nsIn K mainGlobals "_law_of" = some (some (.ref f2)))
    (l2 : K.lookup f2 = some ⟨oc2, od2, .func (PySem.W.fnOf "_law_of" "_law_of" (defArgs s__law_of) (defBody s__law_of) (defScope s__law_of) .none kV2 dc2 pm2 an2 cd2 ct2), sl2⟩) (c2 : PySem.W.codeIn K cd2 "_law_of" = true) (k2 : PySem.W.keepIn K (.ref f2) = true)
    (a3 : PySem.W.nsIn K mainGlobals "_law_same" = some (some (.ref f3)))
    (l3 : K.lookup f3 = some ⟨oc3, od3, .func (PySem.W.fnOf "_law_same" "_law_same" (defArgs s__law_same) (defBody s__law_same) (defScope s__law_same) .none kV3 dc3 pm3 an3 cd3 ct3), sl3⟩) (c3 : PySem.W.codeIn K cd3 "_law_same" = true) (k3 : PySem.W.keepIn K (.ref f3) = true)
    (a4 : PySem.W.nsIn K mainGlobals "gcd" = some (some (.ref f4)))
    (l4 : K.lookup f4 = some ⟨oc4, od4, .func (PySem.W.fnOf "gcd" "gcd" (defArgs s_gcd) (defBody s_gcd) (defScope s_gcd) .none kV4 dc4 pm4 an4 cd4 ct4), sl4⟩) (c4 : PySem.W.codeIn K cd4 "gcd" = true) (k4 : PySem.W.keepIn K (.ref f4) = true)
    (a5 : PySem.W.nsIn K mainGlobals "common" = some (some (.ref f5)))
    (l5 : K.lookup f5 = some ⟨oc5, od5, .func (PySem.W.fnOf "common" "common" (defArgs s_common) (defBody s_common) (defScope s_common) .none kV5 dc5 pm5 an5 cd5 ct5), sl5⟩) (c5 : PySem.W.codeIn K cd5 "common" = true) (k5 : PySem.W.keepIn K (.ref f5) = true)
    (a6 : PySem.W.nsIn K mainGlobals "primitive" = some (some (.ref f6)))
    (l6 : K.lookup f6 = some ⟨oc6, od6, .func (PySem.W.fnOf "primitive" "primitive" (defArgs s_primitive) (defBody s_primitive) (defScope s_primitive) .none kV6 dc6 pm6 an6 cd6 ct6), sl6⟩) (c6 : PySem.W.codeIn K cd6 "primitive" = true) (k6 : PySem.W.keepIn K (.ref f6) = true)
    (a7 : PySem.W.nsIn K mainGlobals "cleared" = some (some (.ref f7)))
    (l7 : K.lookup f7 = some ⟨oc7, od7, .func (PySem.W.fnOf "cleared" "cleared" (defArgs s_cleared) (defBody s_cleared) (defScope s_cleared) .none kV7 dc7 pm7 an7 cd7 ct7), sl7⟩) (c7 : PySem.W.codeIn K cd7 "cleared" = true) (k7 : PySem.W.keepIn K (.ref f7) = true)
    (a8 : PySem.W.nsIn K mainGlobals "echelon" = some (some (.ref f8)))
    (l8 : K.lookup f8 = some ⟨oc8, od8, .func (PySem.W.fnOf "echelon" "echelon" (defArgs s_echelon) (defBody s_echelon) (defScope s_echelon) .none kV8 dc8 pm8 an8 cd8 ct8), sl8⟩) (c8 : PySem.W.codeIn K cd8 "echelon" = true) (k8 : PySem.W.keepIn K (.ref f8) = true)
    (a9 : PySem.W.nsIn K mainGlobals "null_rows" = some (some (.ref f9)))
    (l9 : K.lookup f9 = some ⟨oc9, od9, .func (PySem.W.fnOf "null_rows" "null_rows" (defArgs s_null_rows) (defBody s_null_rows) (defScope s_null_rows) .none kV9 dc9 pm9 an9 cd9 ct9), sl9⟩) (c9 : PySem.W.codeIn K cd9 "null_rows" = true) (k9 : PySem.W.keepIn K (.ref f9) = true)
    (a10 : PySem.W.nsIn K mainGlobals "_law_is_integer" = some (some (.ref f10)))
    (l10 : K.lookup f10 = some ⟨oc10, od10, .func (PySem.W.fnOf "_law_is_integer" "_law_is_integer" (defArgs s__law_is_integer) (defBody s__law_is_integer) (defScope s__law_is_integer) .none kV10 dc10 pm10 an10 cd10 ct10), sl10⟩) (c10 : PySem.W.codeIn K cd10 "_law_is_integer" = true) (k10 : PySem.W.keepIn K (.ref f10) = true)
    (a11 : PySem.W.nsIn K mainGlobals "_law_common" = some (some (.ref f11)))
    (l11 : K.lookup f11 = some ⟨oc11, od11, .func (PySem.W.fnOf "_law_common" "_law_common" (defArgs s__law_common) (defBody s__law_common) (defScope s__law_common) .none kV11 dc11 pm11 an11 cd11 ct11), sl11⟩) (c11 : PySem.W.codeIn K cd11 "_law_common" = true) (k11 : PySem.W.keepIn K (.ref f11) = true)
    (a12 : PySem.W.nsIn K mainGlobals "_law_lowered" = some (some (.ref f12)))
    (l12 : K.lookup f12 = some ⟨oc12, od12, .func (PySem.W.fnOf "_law_lowered" "_law_lowered" (defArgs s__law_lowered) (defBody s__law_lowered) (defScope s__law_lowered) .none kV12 dc12 pm12 an12 cd12 ct12), sl12⟩) (c12 : PySem.W.codeIn K cd12 "_law_lowered" = true) (k12 : PySem.W.keepIn K (.ref f12) = true)
    (a13 : PySem.W.nsIn K mainGlobals "_law_basis" = some (some (.ref f13)))
    (l13 : K.lookup f13 = some ⟨oc13, od13, .func (PySem.W.fnOf "_law_basis" "_law_basis" (defArgs s__law_basis) (defBody s__law_basis) (defScope s__law_basis) .none kV13 dc13 pm13 an13 cd13 ct13), sl13⟩) (c13 : PySem.W.codeIn K cd13 "_law_basis" = true) (k13 : PySem.W.keepIn K (.ref f13) = true)
    (a14 : PySem.W.nsIn K mainGlobals "_law_depends" = some (some (.ref f14)))
    (l14 : K.lookup f14 = some ⟨oc14, od14, .func (PySem.W.fnOf "_law_depends" "_law_depends" (defArgs s__law_depends) (defBody s__law_depends) (defScope s__law_depends) .none kV14 dc14 pm14 an14 cd14 ct14), sl14⟩) (c14 : PySem.W.codeIn K cd14 "_law_depends" = true) (k14 : PySem.W.keepIn K (.ref f14) = true)
    (a15 : PySem.W.nsIn K mainGlobals "_law_integer" = some (some (.ref f15)))
    (l15 : K.lookup f15 = some ⟨oc15, od15, .func (PySem.W.fnOf "_law_integer" "_law_integer" (defArgs s__law_integer) (defBody s__law_integer) (defScope s__law_integer) .none kV15 dc15 pm15 an15 cd15 ct15), sl15⟩) (c15 : PySem.W.codeIn K cd15 "_law_integer" = true) (k15 : PySem.W.keepIn K (.ref f15) = true)
    (a16 : PySem.W.nsIn K mainGlobals "_law_row" = some (some (.ref f16)))
    (l16 : K.lookup f16 = some ⟨oc16, od16, .func (PySem.W.fnOf "_law_row" "_law_row" (defArgs s__law_row) (defBody s__law_row) (defScope s__law_row) .none kV16 dc16 pm16 an16 cd16 ct16), sl16⟩) (c16 : PySem.W.codeIn K cd16 "_law_row" = true) (k16 : PySem.W.keepIn K (.ref f16) = true)
    (a17 : PySem.W.nsIn K mainGlobals "law" = some (some (.ref f17)))
    (l17 : K.lookup f17 = some ⟨oc17, od17, .func (PySem.W.fnOf "law" "law" (defArgs s_law) (defBody s_law) (defScope s_law) .none kV17 dc17 pm17 an17 cd17 ct17), sl17⟩) (c17 : PySem.W.codeIn K cd17 "law" = true) (k17 : PySem.W.keepIn K (.ref f17) = true)
    (z_int : PySem.W.nsIn K mainGlobals "int" = some none)
    (z_len : PySem.W.nsIn K mainGlobals "len" = some none)
    (z_list : PySem.W.nsIn K mainGlobals "list" = some none)
    (z_range : PySem.W.nsIn K mainGlobals "range" = some none)
    (z_repr : PySem.W.nsIn K mainGlobals "repr" = some none)
    (z_all : PySem.W.nsIn K mainGlobals "all" = some none)
    (z_any : PySem.W.nsIn K mainGlobals "any" = some none)
    (z_tuple : PySem.W.nsIn K mainGlobals "tuple" = some none)
    (z_max : PySem.W.nsIn K mainGlobals "max" = some none)
    (z_sum : PySem.W.nsIn K mainGlobals "sum" = some none)
    (z_isinstance : PySem.W.nsIn K mainGlobals "isinstance" = some none)
    (z_abs : PySem.W.nsIn K mainGlobals "abs" = some none)
    (z_zip : PySem.W.nsIn K mainGlobals "zip" = some none)
    (z_enumerate : PySem.W.nsIn K mainGlobals "enumerate" = some none)
    (z_bool : PySem.W.nsIn K mainGlobals "bool" = some none) :
    ∃ fd : FuncData, (∀ (s : Shared) (v : Value), BindsTo s fd ⟨[v], []⟩ [("_law_script", v)]) ∧ ∀ base : Heap, K.In base → base.Ns mainGlobals mg → FnG l.prog w K mg base CX0 40 fa fd ["_law_script"] (spLaw K) := by
  have e0 := hfa.symm.trans (PySem.W.mg_of X G a17)
  cases e0
  have F0 := fun_mk (st := s__law_source) l0 c0 k0
  have b0 := F0.binds (ps := ["_law_script"]) fun _ _ _ _ _ _ us hl => match us, hl with | [_], _ => rfl
  have F1 := fun_mk (st := s__law_draw) l1 c1 k1
  have b1 := F1.binds (ps := ["_law_src", "_law_many"]) fun _ _ _ _ _ _ us hl => match us, hl with | [_, _], _ => rfl
  have F2 := fun_mk (st := s__law_of) l2 c2 k2
  have b2 := F2.binds (ps := ["_law_src", "_law_some"]) fun _ _ _ _ _ _ us hl => match us, hl with | [_, _], _ => rfl
  have F3 := fun_mk (st := s__law_same) l3 c3 k3
  have b3 := F3.binds (ps := ["_law_found", "_law_due"]) fun _ _ _ _ _ _ us hl => match us, hl with | [_, _], _ => rfl
  have F4 := fun_mk (st := s_gcd) l4 c4 k4
  have b4 := F4.binds (ps := ["one", "other"]) fun _ _ _ _ _ _ us hl => match us, hl with | [_, _], _ => rfl
  have F5 := fun_mk (st := s_common) l5 c5 k5
  have b5 := F5.binds (ps := ["numbers"]) fun _ _ _ _ _ _ us hl => match us, hl with | [_], _ => rfl
  have F6 := fun_mk (st := s_primitive) l6 c6 k6
  have b6 := F6.binds (ps := ["row"]) fun _ _ _ _ _ _ us hl => match us, hl with | [_], _ => rfl
  have F7 := fun_mk (st := s_cleared) l7 c7 k7
  have b7 := F7.binds (ps := ["row", "head", "place"]) fun _ _ _ _ _ _ us hl => match us, hl with | [_, _, _], _ => rfl
  have F8 := fun_mk (st := s_echelon) l8 c8 k8
  have b8 := F8.binds (ps := ["rows", "width"]) fun _ _ _ _ _ _ us hl => match us, hl with | [_, _], _ => rfl
  have F9 := fun_mk (st := s_null_rows) l9 c9 k9
  have b9 := F9.binds (ps := ["rows", "width"]) fun _ _ _ _ _ _ us hl => match us, hl with | [_, _], _ => rfl
  have F10 := fun_mk (st := s__law_is_integer) l10 c10 k10
  have b10 := F10.binds (ps := ["_law_thing"]) fun _ _ _ _ _ _ us hl => match us, hl with | [_], _ => rfl
  have F11 := fun_mk (st := s__law_common) l11 c11 k11
  have b11 := F11.binds (ps := ["_law_numbers"]) fun _ _ _ _ _ _ us hl => match us, hl with | [_], _ => rfl
  have F12 := fun_mk (st := s__law_lowered) l12 c12 k12
  have b12 := F12.binds (ps := ["_law_row_here", "_law_basis_here"]) fun _ _ _ _ _ _ us hl => match us, hl with | [_, _], _ => rfl
  have F13 := fun_mk (st := s__law_basis) l13 c13 k13
  have b13 := F13.binds (ps := ["_law_rows"]) fun _ _ _ _ _ _ us hl => match us, hl with | [_], _ => rfl
  have F14 := fun_mk (st := s__law_depends) l14 c14 k14
  have b14 := F14.binds (ps := ["_law_row_here", "_law_rows"]) fun _ _ _ _ _ _ us hl => match us, hl with | [_, _], _ => rfl
  have F15 := fun_mk (st := s__law_integer) l15 c15 k15
  have b15 := F15.binds (ps := ["_law_src"]) fun _ _ _ _ _ _ us hl => match us, hl with | [_], _ => rfl
  have F16 := fun_mk (st := s__law_row) l16 c16 k16
  have b16 := F16.binds (ps := ["_law_src", "_law_rows", "_law_width"]) fun _ _ _ _ _ _ us hl => match us, hl with | [_, _, _], _ => rfl
  have F17 := fun_mk (st := s_law) l17 c17 k17
  have T : Txt K mg { f__law_source := f0, d__law_source := _, f__law_draw := f1, d__law_draw := _, f__law_of := f2, d__law_of := _, f__law_same := f3, d__law_same := _, f_gcd := f4, d_gcd := _, f_common := f5, d_common := _, f_primitive := f6, d_primitive := _, f_cleared := f7, d_cleared := _, f_echelon := f8, d_echelon := _, f_null_rows := f9, d_null_rows := _, f__law_is_integer := f10, d__law_is_integer := _, f__law_common := f11, d__law_common := _, f__law_lowered := f12, d__law_lowered := _, f__law_basis := f13, d__law_basis := _, f__law_depends := f14, d__law_depends := _, f__law_integer := f15, d__law_integer := _, f__law_row := f16, d__law_row := _ } := {
    F__law_source := F0,
    b__law_source := b0,
    g__law_source := PySem.W.mg_of X G a0,
    F__law_draw := F1,
    b__law_draw := b1,
    g__law_draw := PySem.W.mg_of X G a1,
    F__law_of := F2,
    b__law_of := b2,
    g__law_of := PySem.W.mg_of X G a2,
    F__law_same := F3,
    b__law_same := b3,
    g__law_same := PySem.W.mg_of X G a3,
    F_gcd := F4,
    b_gcd := b4,
    g_gcd := PySem.W.mg_of X G a4,
    F_common := F5,
    b_common := b5,
    g_common := PySem.W.mg_of X G a5,
    F_primitive := F6,
    b_primitive := b6,
    g_primitive := PySem.W.mg_of X G a6,
    F_cleared := F7,
    b_cleared := b7,
    g_cleared := PySem.W.mg_of X G a7,
    F_echelon := F8,
    b_echelon := b8,
    g_echelon := PySem.W.mg_of X G a8,
    F_null_rows := F9,
    b_null_rows := b9,
    g_null_rows := PySem.W.mg_of X G a9,
    F__law_is_integer := F10,
    b__law_is_integer := b10,
    g__law_is_integer := PySem.W.mg_of X G a10,
    F__law_common := F11,
    b__law_common := b11,
    g__law_common := PySem.W.mg_of X G a11,
    F__law_lowered := F12,
    b__law_lowered := b12,
    g__law_lowered := PySem.W.mg_of X G a12,
    F__law_basis := F13,
    b__law_basis := b13,
    g__law_basis := PySem.W.mg_of X G a13,
    F__law_depends := F14,
    b__law_depends := b14,
    g__law_depends := PySem.W.mg_of X G a14,
    F__law_integer := F15,
    b__law_integer := b15,
    g__law_integer := PySem.W.mg_of X G a15,
    F__law_row := F16,
    b__law_row := b16,
    g__law_row := PySem.W.mg_of X G a16,
    n_int := PySem.W.mg_none_of X G z_int,
    n_len := PySem.W.mg_none_of X G z_len,
    n_list := PySem.W.mg_none_of X G z_list,
    n_range := PySem.W.mg_none_of X G z_range,
    n_repr := PySem.W.mg_none_of X G z_repr,
    n_all := PySem.W.mg_none_of X G z_all,
    n_any := PySem.W.mg_none_of X G z_any,
    n_tuple := PySem.W.mg_none_of X G z_tuple,
    n_max := PySem.W.mg_none_of X G z_max,
    n_sum := PySem.W.mg_none_of X G z_sum,
    n_isinstance := PySem.W.mg_none_of X G z_isinstance,
    n_abs := PySem.W.mg_none_of X G z_abs,
    n_zip := PySem.W.mg_none_of X G z_zip,
    n_enumerate := PySem.W.mg_none_of X G z_enumerate,
    n_bool := PySem.W.mg_none_of X G z_bool }
  exact ⟨_, fun s v => .of_eq rfl, fun base _ _ => ok_law F17 T⟩
theorem walk {l : PySem.W.OpenLaw} {q : Program} {loose : List Str} {XP : (Str → Option Value) → Heap → Prop} {YP : World → Heap → Prop} {d : DefRec} {K : Params → PySem.W.Frag} (hn : l.most = some 63)
    (hdf : d.params.defaults = []) (hY : ∀ (w : World) (h : Heap), YP w h → (K w.params).In h)
    (F : ∀ (w : World) (mg : Str → Option Value) (fa : Addr) (h : Heap), (K w.params).In h → h.Ns mainGlobals mg → mg d.name = some (.ref fa) →
      ∃ fd : FuncData, (∀ (s : Shared) (u : Value), BindsTo s fd ⟨[u], []⟩ [("_law_script", u)]) ∧ ∀ base : Heap, (K w.params).In base → base.Ns mainGlobals mg →
        FnG l.prog w (K w.params) mg base CX0 40 fa fd ["_law_script"] (spLaw (K w.params))) :
    PySem.W.WalkO q loose XP YP l.row.toRowW d [] (fun f vs => PySem.call f vs) :=
  walk_ofG (n := 63) (k := 40) (x := "_law_script") (CX := fun _ => CX0) (sp := fun w => spLaw (K w.params)) hn (by decide) hdf ⟨rfl, by decide, by decide⟩ hY F
    (fun _ _ a ns hl _ hS => ⟨a, ns, rfl, hS, fun _ => rfl⟩) fun _ _ _ _ _ z => z
end Toy
open PySem PySem.W PyProof.Rows
set_option maxRecDepth 100000 in
set_option maxHeartbeats 0 in
theorem PySem.Challenge.cw_fewvouch_k14_null_rows_told_holds : PySem.Challenge.rw_fewvouch_k14_null_rows_told.Holds := by
  w_on; o_law; k_head; (case hw => w_witness2)
  k_fill
  refine Toy.walk (l := PySem.Challenge.rw_fewvouch_k14_null_rows_told) rfl rfl (fun w h Y => PySem.W.kIn_of Y) ?F
  case F =>
    intro w mg fa h KX G hmg
    refine' Toy.all_mk KX G hmg ?a0 ?l0 ?c0 ?k0 ?a1 ?l1 ?c1 ?k1 ?a2 ?l2 ?c2 ?k2 ?a3 ?l3 ?c3 ?k3 ?a4 ?l4 ?c4 ?k4 ?a5 ?l5 ?c5 ?k5 ?a6 ?l6 ?c6 ?k6 ?a7 ?l7 ?c7 ?k7 ?a8 ?l8 ?c8 ?k8 ?a9 ?l9 ?c9 ?k9 ?a10 ?l10 ?c10 ?k10 ?a11 ?l11 ?c11 ?k11 ?a12 ?l12 ?c12 ?k12 ?a13 ?l13 ?c13 ?k13 ?a14 ?l14 ?c14 ?k14 ?a15 ?l15 ?c15 ?k15 ?a16 ?l16 ?c16 ?k16 ?a17 ?l17 ?c17 ?k17 ?z_int ?z_len ?z_list ?z_range ?z_repr ?z_all ?z_any ?z_tuple ?z_max ?z_sum ?z_isinstance ?z_abs ?z_zip ?z_enumerate ?z_bool
    (case a0 => k_is)
    (case l0 => k_is)
    (case c0 => k_is)
    (case k0 => k_is)
    (case a1 => k_is)
    (case l1 => k_is)
    (case c1 => k_is)
    (case k1 => k_is)
    (case a2 => k_is)
    (case l2 => k_is)
    (case c2 => k_is)
    (case k2 => k_is)
    (case a3 => k_is)
    (case l3 => k_is)
    (case c3 => k_is)
    (case k3 => k_is)
    (case a4 => k_is)
    (case l4 => k_is)
    (case c4 => k_is)
    (case k4 => k_is)
    (case a5 => k_is)
    (case l5 => k_is)
    (case c5 => k_is)
    (case k5 => k_is)
    (case a6 => k_is)
    (case l6 => k_is)
    (case c6 => k_is)
    (case k6 => k_is)
    (case a7 => k_is)
    (case l7 => k_is)
    (case c7 => k_is)
    (case k7 => k_is)
    (case a8 => k_is)
    (case l8 => k_is)
    (case c8 => k_is)
    (case k8 => k_is)
    (case a9 => k_is)
    (case l9 => k_is)
    (case c9 => k_is)
    (case k9 => k_is)
    (case a10 => k_is)
    (case l10 => k_is)
    (case c10 => k_is)
    (case k10 => k_is)
    (case a11 => k_is)
    (case l11 => k_is)
    (case c11 => k_is)
    (case k11 => k_is)
    (case a12 => k_is)
    (case l12 => k_is)
    (case c12 => k_is)
    (case k12 => k_is)
    (case a13 => k_is)
    (case l13 => k_is)
    (case c13 => k_is)
    (case k13 => k_is)
    (case a14 => k_is)
    (case l14 => k_is)
    (case c14 => k_is)
    (case k14 => k_is)
    (case a15 => k_is)
    (case l15 => k_is)
    (case c15 => k_is)
    (case k15 => k_is)
    (case a16 => k_is)
    (case l16 => k_is)
    (case c16 => k_is)
    (case k16 => k_is)
    (case a17 => k_is)
    (case l17 => k_is)
    (case c17 => k_is)
    (case k17 => k_is)
    (case z_int => k_is)
    (case z_len => k_is)
    (case z_list => k_is)
    (case z_range => k_is)
    (case z_repr => k_is)
    (case z_all => k_is)
    (case z_any => k_is)
    (case z_tuple => k_is)
    (case z_max => k_is)
    (case z_sum => k_is)
    (case z_isinstance => k_is)
    (case z_abs => k_is)
    (case z_zip => k_is)
    (case z_enumerate => k_is)
    (case z_bool => k_is)
#print axioms PySem.Challenge.cw_fewvouch_k14_null_rows_told_holds
