import PyProof.Rows.All
import Wide.All
import OpenK.AllK
import Wide.FinOn
import HandS.ForMost
import HandS.Exc
import HandS.ExcOwn
import HandS.TryOnly
import HandS.WordsExc
import HandS.Flow
import HandS.Style
import HandS.IsInst
import HandS.Deep
import HandS.TupAny
import HandS.TupMul
import HandS.SortKw
import HandS.SortRule
import HandS.SortInts
import HandS.ListItems
import HandS.DictTup
import HandS.Codes
import HandS.Defaults
import HandS.Zip
import HandS.More
import HandS.Conv
import HandS.ExcInit
import HandS.ExcField
import HandS.ClsMeth
import HandS.Finally
import HandS.SetFor
import HandS.DictEq
import HandS.Wide
import HandS.Small
import PyProof.EqAt
import PyProof.NeKinds
import PyProof.DictWalks
import PyProof.WalkInts
import PyProof.MinMaxWalk
import HandS.ExcIs
import KE.KExcIs
import HandS.OwnEq
import PyProof.InstNe
import HandS.MakeKwOnly
import HandS.HotCalls
import HandS.ExcInitHot
import PyProof.StrOps2
import KE.KxPercent
import HandS.TryMany
import HandS.FStr
import KE.SortData
import PyProof.Rows.SortWalk
import HandS.Head2
import HandS.HeadHook3
import HandS.Iter
import HandS.Comp
import HandS.SuiteRaise
import PySem.Challenge.RW_revokelog_k27_whole_checkpoints_amid_tra
set_option Elab.async false
set_option maxRecDepth 100000
set_option maxHeartbeats 4000000
namespace J
open PySem PySem.Spec PyProof.Rows L2

/-! ### repr of data -/
def rRepr (K : PySem.W.Frag) : List V → Hp → VK → Prop := fun xs H Q =>
  ∃ (x : V) (d : PyData), xs = [x] ∧ Dp K H x d ∧ d.showable = true ∧ d.depth ≤ 60 ∧
    d.shown.length ≤ sizeLine ∧ Q (.str d.shown) H
theorem noDict_of_dp {K : PySem.W.Frag} {H : Hp} : ∀ (d : PyData) (v : V), Dp K H v d → d.hasDict = false := by
  intro d v h
  refine Dp.rec (motive_1 := fun _ d _ => d.hasDict = false)
    (motive_2 := fun _ ds _ => PyData.hasDictAll ds = false) ?_ ?_ ?_ ?_ ?_ ?_ ?_ ?_ h
  all_goals intros
  all_goals simp_all [PyData.hasDict, PyData.hasDictAll]
section
variable {X : Cx}
theorem call_reprD (hg : X.A.guards = some []) (hu : X.A.units + 64 < cLine) :
    CallR X (.builtin "repr") (rRepr X.K) := by
  intro pins s σ H xs us Q I r h
  obtain ⟨x, d, rfl, hd, hs, hdep, hz, q⟩ := h
  obtain ⟨u, rfl, rx⟩ := vals1 r
  cases hd with
  | non =>
    cases rx
    exact PySem.P.repr_of_none ⟨.str _, H, I.tok _, ⟨_, rfl⟩, q⟩
  | bl b =>
    cases rx
    exact PySem.P.repr_of_bool ⟨.str _, H, I.tok _, ⟨_, rfl⟩, by cases b <;> exact q⟩
  | int i =>
    obtain ⟨t, rfl⟩ := rx
    exact PySem.P.repr_of_int (by simpa [PyData.showable] using hs) ⟨.str _, H, I.tok _, ⟨_, rfl⟩, q⟩
  | str z =>
    obtain ⟨t, rfl⟩ := rx
    exact PySem.P.repr_of_str ⟨.str _, H, I.tok _, ⟨_, rfl⟩, q⟩ hz
  | @lst a ys ds hq ha =>
    obtain ⟨as, rr⟩ := Dp.reads I _ _ _ (.lst hq ha) rx
    cases rx
    have nd := noDict_of_dp _ _ (Dp.lst hq ha)
    exact repr_of_reads' rr hs (PyData.noDict_hsm nd) hg (by omega) (fun _ _ e => e)
      (fun h' v tk hk => ⟨.str _, H, I.kept hk, ⟨_, rfl⟩, q⟩) hz
  | @tup a ys ds hq ha =>
    obtain ⟨as, rr⟩ := Dp.reads I _ _ _ (.tup hq ha) rx
    cases rx
    have nd := noDict_of_dp _ _ (Dp.tup hq ha)
    exact repr_of_reads' rr hs (PyData.noDict_hsm nd) hg (by omega) (fun _ _ e => e)
      (fun h' v tk hk => ⟨.str _, H, I.kept hk, ⟨_, rfl⟩, q⟩) hz
end
end J

set_option Elab.async false
set_option linter.all false
set_option maxRecDepth 100000
set_option maxHeartbeats 4000000
namespace J
open PySem L2 PyProof.Rows

/-! ### defs by their names -/
/-- the def that stands at the module's name x keeps the promise -/
structure Cl (P : Program) (w : World) (K : PySem.W.Frag) (mg : Str → Option Value) (base : Heap)
    (CX : CXT) (k : Nat) (x : Str) (sp : Sp) : Prop where
  ex : ∃ f fd ps, FnOk P w K mg base CX k f fd ps sp ∧ mg x = some (.ref f) ∧
    PySem.W.keepIn K (.ref f) = true ∧ Binds K fd ps []

/-- the same, where no repr is under way -/
structure FnG (P : Program) (w : World) (K : PySem.W.Frag) (mg : Str → Option Value) (base : Heap)
    (CX : CXT) (k : Nat) (f : Addr) (fd : FuncData) (ps : List Str) (sp : Sp) : Prop where
  len : ∀ vs H Q E, sp vs H Q E → vs.length = ps.length
  run : ∀ (A : Around) (outer : List Env) (s : Shared) (H : Hp) (args : Args) (us : List Value)
    (vs : List V) (Q : VK) (E : XK), Room k A → A.guards = some [] →
    Env0 P w K mg base A outer s H → BindsTo s fd args (ps.zip us) → Vals vs us → sp vs H Q E →
    codeAny (model P w) A (.call (.ref f) args) (CR CX outer P w H s Q E) s
structure ClG (P : Program) (w : World) (K : PySem.W.Frag) (mg : Str → Option Value) (base : Heap)
    (CX : CXT) (k : Nat) (x : Str) (sp : Sp) : Prop where
  ex : ∃ f fd ps, FnG P w K mg base CX k f fd ps sp ∧ mg x = some (.ref f) ∧
    PySem.W.keepIn K (.ref f) = true ∧ Binds K fd ps []
theorem ClG.of {P : Program} {w : World} {K : PySem.W.Frag} {mg : Str → Option Value} {base : Heap}
    {CX : CXT} {k : Nat} {x : Str} {sp : Sp} (c : Cl P w K mg base CX k x sp) :
    ClG P w K mg base CX k x sp := by
  obtain ⟨f, fd, ps, F, hm, hk, hb⟩ := c.ex
  exact ⟨f, fd, ps, ⟨F.len, fun A o s H ar us vs Q E hr _ => F.run A o s H ar us vs Q E hr⟩, hm, hk, hb⟩

section
variable {X : Cx} {CX : CXT} {k j : Nat} {sp : Sp} {E : L2.St → XK} {x : Str} {p pos : Pos}
  {e : Expr} {es : List Expr} {t : TA}
/-- f(e, ..) -/
theorem pe_cl (c : Cl X.prog X.w X.K X.mg X.base CX k x sp) (hr : Room j X.A) (hk : k ≤ j)
    (hx : ∀ σ, PassesAt CX X σ (E σ)) (ha : PA X (e :: es) t) (hg : Gl X x := by rfl)
    (hdb : (x == ("__debug__" : Str)) = false := by decide)
    (he : starEach (e :: es) X.env = (false, eval e X.env) :: starEach es X.env := by rfl)
    (hpl : (backTo pos (starEach es X.env)).any (·.1) = false := by rfl) :
    PE X (.Call (.Name x p) (e :: es) [] pos) (tCallS sp E t) := by
  obtain ⟨f, fd, ps, F, hm, kp, hb⟩ := c.ex
  exact pe_callS F (hr.mono hk) hg hm kp hb hx ha hdb he hpl
theorem pass00 : ∀ σ, PassesAt CX0 X σ ((fun _ => E0) σ) := fun _ _ _ _ _ _ _ h => h.elim
/-- f() -/
def tCall0 (sp : Sp) (E : L2.St → XK) : TE := fun σ H Q => sp [] H Q (E σ)
theorem pe_cl0 (c : Cl X.prog X.w X.K X.mg X.base CX k x sp) (hr : Room j X.A) (hk : k ≤ j)
    (hx : ∀ σ, PassesAt CX X σ (E σ)) (hg : Gl X x := by rfl)
    (hdb : (x == ("__debug__" : Str)) = false := by decide) :
    PE X (.Call (.Name x p) [] [] pos) (tCall0 sp E) := by
  obtain ⟨f, fd, ps, F, hm, kp, hb⟩ := c.ex
  refine ⟨fun pins s σ H Q I h => ?_⟩
  refine wpAny_Call_Name_kw (ld_glob I hg hm ?_ hdb)
  exact PySem.W.callWith_K0 I.kIn kp (run_fnS (us := []) (E := E) F (hr.mono hk) hb (hx σ) I .nil h)

/-- the callee runs; no repr is under way -/
theorem run_G {f : Addr} {fd : FuncData} {ps : List Str} {pins : List (Addr × Obj)} {σ : L2.St} {H : Hp}
    {s : Shared} {Q : VK} {us : List Value} {vs : List V} {E1 : XK}
    (F : FnG X.prog X.w X.K X.mg X.base CX k f fd ps sp) (hr : Room k X.A) (hgd : X.A.guards = some [])
    (hb : Binds X.K fd ps []) (hx : PassesAt CX X σ E1) (I : Inv X pins σ H s) (r : Vals vs us)
    (h : sp vs H Q E1) : wpAny (model X.prog X.w) X.A (call (.ref f) us) (EP X pins σ Q) X.xe s := by
  have hl : us.length = ps.length := r.length.symm.trans (F.len _ _ _ _ h)
  have b := hb s us I.kIn (by rw [List.append_nil]; exact hl)
  rw [List.append_nil] at b
  have c := F.run X.A X.stack s H ⟨us, []⟩ us vs Q E1 hr hgd I.env0 b r h
  refine wpAny_call (codeAny_mono c fun res s' hq => ?_)
  match res, hq with
  | .error er, hq => exact hx pins H s er s' I hq
  | .ok (.ret _), hq => exact I.after hq
  | .ok .next, hq => exact hq.elim
  | .ok .brk, hq => exact hq.elim
  | .ok .cont, hq => exact hq.elim
theorem pe_clG (c : ClG X.prog X.w X.K X.mg X.base CX k x sp) (hr : Room j X.A) (hk : k ≤ j)
    (hgd : X.A.guards = some []) (hx : ∀ σ, PassesAt CX X σ (E σ)) (ha : PA X (e :: es) t)
    (hg : Gl X x := by rfl) (hdb : (x == ("__debug__" : Str)) = false := by decide)
    (he : starEach (e :: es) X.env = (false, eval e X.env) :: starEach es X.env := by rfl)
    (hpl : (backTo pos (starEach es X.env)).any (·.1) = false := by rfl) :
    PE X (.Call (.Name x p) (e :: es) [] pos) (tCallS sp E t) := by
  obtain ⟨f, fd, ps, F, hm, kp, hb⟩ := c.ex
  refine ⟨fun pins s σ H Q I h => wpAny_Call_Name_kw (ld_glob I hg hm ?_ hdb)⟩
  have st := thn (ha.run pos pins s σ H _ I h) (Q' := fun us s1 => X.K.In s1.heap ∧
    wpAny (model X.prog X.w) X.A (call (.ref f) us) (EP X pins σ Q) X.xe s1)
    (fun us s1 ⟨vs, H1, I1, r, q⟩ => ⟨I1.kIn, run_G F (hr.mono hk) hgd hb (hx σ) I1 r q⟩)
  exact PySem.W.callWith_K (h₀ := X.base) I.ok.mod.kin kp st he hpl
end

/-! ### a def's body, where no repr is under way -/
section
variable {P : Program} {w : World} {K : PySem.W.Frag} {mg : Str → Option Value} {base : Heap}
theorem okG {x qual : Str} {st : Stmt} {f : Addr} {fd : FuncData} {N ps : List Str} {k : Nat} {sp : Sp}
    (F : Fun K x qual st f fd) (S : FnScope N ps (defScope st))
    (len : ∀ vs H Q E, sp vs H Q E → vs.length = ps.length)
    (hbody : ∀ (cdv : Value) (A : Around) (outer : List Env) (s : Shared) (H : Hp) (vs : List V) (Q : VK) (E : XK),
      Room k (A.deeper (envOfC qual (defScope st) s.heap.objs.size f cdv)) → A.guards = some [] → sp vs H Q E →
      ∃ t, PSs (cxOf CX0 P w K mg base N qual (defScope st) f cdv A outer s H E).nox (defBody st) t ∧
        t { nx := fun _ H' => Q .non H', rt := Q } (start N vs) H) :
    FnG P w K mg base CX0 (k + 1) f fd ps sp := by
  obtain ⟨oc, od, kV, doc, pm, an, cdv, ct, osl, rfl, lk, hcd⟩ := F.ex
  refine ⟨len, fun A outer s H args us vs Q E hr hgd e0 hb r hsp => ?_⟩
  have hroomy := hr.depth
  have KX : K.In s.heap := e0.mod.kin.keeps fun b o e => (e0.bs b o e).1
  have lim : s.heap.NoLimit := e0.mod.nolimit.keeps fun b o e => (e0.bs b o e).1
  have hkd : ∀ y ∈ ps.zip us, (defScope st).names.lookup y.1 = some .local ∨
      ((defScope st).names.lookup y.1 = some .cell ∧
        ((cellsFrom (s.heap.objs.size + 1) (defScope st).names []).lookup y.1).isSome = true) := by
    rintro ⟨n, v⟩ hy
    have hn := (List.of_mem_zip hy).1
    cases S.par n hn with
    | inl q => exact Or.inl q
    | inr q => exact Or.inr ⟨q, PySem.W.cellsFrom_some _ _ _ (Or.inl q)⟩
  refine codeAny_call_function hroomy (KX _ _ lk) rfl S.co S.gen rfl (PySem.W.codeRec_of KX hcd)
    (hb _ _ _ _ (wpAny_newFunctionEnv_cells S.kind hkd fun env he s1 xx => ?_))
  subst he
  refine ⟨lim.keeps xx.toInCall.keep, codeAny_func ?_⟩
  obtain ⟨t, ht, hq⟩ := hbody cdv A outer s H vs Q E (hr.deeper _) hgd hsp
  have I : Inv (cxOf CX0 P w K mg base N qual (defScope st) f cdv A outer s H E) [] (start N vs) H s1 :=
    inv_start S hr.hd e0 (len _ _ _ _ hsp) r xx
  refine wpAny_mono (ht.nox.run [] s1 (start N vs) H _ I hq) (fun fl s' hs => ?_) fun e s' hs => hs
  match fl, hs with
  | .ret u, ⟨v, σ', H', J, rv, q⟩ => exact ⟨v, H', J.os, J.bare, J.base, J.hok, rv, q⟩
  | .next, ⟨σ', H', J, q⟩ => exact ⟨.non, H', J.os, J.bare, J.base, J.hok, rfl, q⟩
  | .brk, ⟨_, _, _, q⟩ => exact q.elim
  | .cont, ⟨_, _, _, q⟩ => exact q.elim
end
end J

set_option Elab.async false
set_option linter.all false
set_option maxRecDepth 100000
set_option maxHeartbeats 4000000
namespace J
open PySem L2 PyProof.Rows
section
variable {P : Program} {w : World} {K : PySem.W.Frag} {mg mb : Str → Option Value} {k : Nat}
  {fa a : Addr} {fd : FuncData} {x : Str} {sp : Sp} {s₁ : Shared} {vs : List Value} {ns : List Int}
def scriptO (vs : List Value) : Obj := { cls := .type "list", data := .seq vs.toArray }
/-- what is asked of the abstract heap at the law's entry -/
structure AtStart (P : Program) (w : World) (K : PySem.W.Frag) (s₁ : Shared) (a : Addr) (ns : List Int) (H : Hp) : Prop where
  only : Only H
  seq : SqL K H a (ns.map V.int)
  ok : HOk P w H s₁.heap
  at_a : ∀ b, H b ≠ none → b = a
  fr : H a ≠ none → K.lookup a = none
theorem start_any (KX : K.In s₁.heap) (ha : s₁.heap.get? a = some (scriptO vs)) (hi : IntsAre vs ns)
    (hl : ns.length ≤ sizeLine) : ∃ H, AtStart P w K s₁ a ns H := by
  have rv := vals_ints hi
  have hlen := hi.length
  cases hk : K.lookup a with
  | some o =>
    have e : o = scriptO vs := Option.some.inj ((KX a o hk).symm.trans ha)
    subst e
    refine ⟨fun _ => none, fun _ => .inl rfl, .inr ?_, fun b u z => (nomatch z), fun b z => absurd rfl z, fun z => absurd rfl z⟩
    exact ⟨_, vs.toArray, _, hk, rfl, rfl, rfl, by rw [List.size_toArray, hlen]; exact hl, by simpa using rv⟩
  | none =>
    have at1 : ∀ b, (if b = a then some (HO.frz (scriptO vs) (.lst (ns.map V.int))) else none) ≠ none → b = a := by
      intro b z
      by_cases hb : b = a
      · exact hb
      · rw [if_neg hb] at z
        exact absurd rfl z
    refine ⟨fun b => if b = a then some (.frz (scriptO vs) (.lst (ns.map V.int))) else none, fun b => ?_,
      .inl (.inr ⟨scriptO vs, if_pos rfl⟩), fun b u z => ?_, at1, fun _ => hk⟩
    · by_cases hb : b = a
      · exact .inr ⟨_, _, if_pos hb⟩
      · exact .inl (if_neg hb)
    · have hb : b = a := at1 b (by rw [z]; exact fun q => nomatch q)
      subst hb
      rw [if_pos rfl] at z
      cases z
      exact ⟨ha, by rw [List.length_map]; exact hl, vs, _, rv, ha⟩
theorem law_runG (KX : K.In s₁.heap) (hns : s₁.heap.Ns mainGlobals mg) (hb : s₁.heap.Ns builtinsNs mb)
    (hbb : ∀ x : Str, x ≠ "__name__" → mb x = bootBuiltins x) (hlim : s₁.heap.NoLimit) (hg : s₁.gens = #[])
    (ha : s₁.heap.get? a = some (scriptO vs)) (hi : IntsAre vs ns) (hl : ns.length ≤ sizeLine) (hr : Room k callerA)
    (F : ∀ base : Heap, K.In base → base.Ns mainGlobals mg → FnG P w K mg base CX0 k fa fd [x] sp)
    (hbind : ∀ (s : Shared) (u : Value), BindsTo s fd ⟨[u], []⟩ [(x, u)])
    (hsp : ∀ H : Hp, Only H → SqL K H a (ns.map V.int) → sp [.ref a] H (fun v _ => v = .bl true) fun _ _ _ => False) :
    codeAny (model P w) callerA (.call (.ref fa) ⟨[.ref a], []⟩)
      (fun r s' => r = .ok (.ret (.bool true)) ∧ OldK s₁.heap s'.heap ∧ s'.os = s₁.os ∧ AllBare s'.gens) s₁ := by
  obtain ⟨H, hO, hS, hok, hA, hK⟩ := start_any (P := P) (w := w) KX ha hi hl
  have bare_of {b : Addr} {o : Obj} {es : Array DictEntry} {ep : Nat} (e : s₁.heap.get? b = some o)
      (d : o.data = .dict es ep) : H b = none := Decidable.byContradiction fun q => by
    obtain rfl : b = a := hA b q
    rw [ha] at e
    cases e
    cases (show Data.seq vs.toArray _ = Data.dict es ep from d)
  have nsK {b : Addr} {m : Str → Option Value} (n : s₁.heap.Ns b m) : (hidT s₁.heap H).Ns b m := by
    obtain ⟨o, es, ep, e, d, r⟩ := n
    exact ⟨o, es, ep, hidT_get e (bare_of e d), d, r⟩
  have hKb : K.In (hidT s₁.heap H) := fun b o e => by
    refine hidT_get (KX b o e) (Decidable.byContradiction fun q => ?_)
    obtain rfl : b = a := hA b q
    rw [hK q] at e
    cases e
  obtain ⟨mc, l1, l2⟩ := hlim
  have hM : Mod K mg (hidT s₁.heap H) := ⟨hKb, nsK hns, ⟨mb, nsK hb, hbb⟩, ⟨mc, nsK l1, l2⟩⟩
  have nin : ∀ b : Addr, b ∉ frs ([] : List Env) := fun b z => absurd (show b ∈ ([] : List Addr) from z) (by simp)
  have e0 : Env0 P w K mg (hidT s₁.heap H) callerA [] s₁ H :=
    ⟨rfl, hM, fun b o e => of_hidT e, Nat.le_of_eq (hidT_size _ _), trivial, fun b z => absurd z (nin b), hok, .of_eq hg⟩
  have run := (F _ hKb (nsK hns)).run callerA [] s₁ H ⟨[.ref a], []⟩ [.ref a] [.ref a] _ _ hr rfl e0
    (hbind s₁ (.ref a)) (.cons rfl .nil) (hsp H hO hS)
  refine codeAny_mono run fun r s' h => ?_
  match r, h with
  | .error e, h => exact h.elim
  | .ok .next, h => exact h.elim
  | .ok .brk, h => exact h.elim
  | .ok .cont, h => exact h.elim
  | .ok (.ret u), ⟨v, H', os, bare, un, hok', r', q⟩ =>
    have q' : v = .bl true := q
    subst q'
    obtain rfl : u = Value.bool true := r'
    refine ⟨rfl, OldK.of_keep fun b o e => ?_, os, bare⟩
    rcases hO b with z | ⟨ob, xs, z⟩
    · exact un.keep b o e z (nin b) (by simp)
    · obtain ⟨e1, _⟩ := hok b _ z
      obtain ⟨e2, _⟩ := hok' b _ (un.frzs b ob _ z)
      rw [Option.some.inj (e.symm.trans e1)]
      exact e2
end
/-- the end of a law over FnG -/
theorem walk_ofG {l : PySem.W.OpenLaw} {n k : Nat} {q : Program} {loose : List Str}
    {XP : (Str → Option Value) → Heap → Prop} {YP : World → Heap → Prop} {d : DefRec}
    {K : Params → PySem.W.Frag} {sp : PySem.W.Frag → Sp} {x : Str}
    (hn : l.most = some n) (hn2 : n ≤ sizeLine) (hdf : d.params.defaults = []) (hr : Room k callerA)
    (hY : ∀ (w : World) (h : Heap), YP w h → (K w.params).In h)
    (F : ∀ (w : World) (mg : Str → Option Value) (fa : Addr) (h : Heap), (K w.params).In h → h.Ns mainGlobals mg →
      mg d.name = some (.ref fa) → ∃ fd : FuncData, (∀ (s : Shared) (u : Value), BindsTo s fd ⟨[u], []⟩ [(x, u)]) ∧
        ∀ base : Heap, (K w.params).In base → base.Ns mainGlobals mg →
          FnG l.prog w (K w.params) mg base CX0 k fa fd [x] (sp (K w.params)))
    (hsp : ∀ (K : PySem.W.Frag) (H : Hp) (a : Addr) (ns : List Int), ns.length ≤ n → Only H →
      SqL K H a (ns.map V.int) → sp K [.ref a] H (fun v _ => v = .bl true) fun _ _ _ => False) :
    PySem.W.WalkO q loose XP YP l.row.toRowW d [] (fun f vs => PySem.call f vs) := by
  refine Att.attach_call hn hdf fun w s₀ s₁ mg mb fa o pm cd doc a vs ns G Y ho hd hcd hmg hobj hints hlen hg => ?_
  have KX := hY w _ Y
  obtain ⟨fd, hb, hF⟩ := F w mg fa _ KX G.T.g hmg
  exact law_runG KX G.T.g G.T.b G.T.builtins G.T.nolimit hg hobj hints (Nat.le_trans hlen hn2) hr hF hb
    (fun H hO hS => hsp _ H a ns hlen hO hS)
end J

set_option Elab.async false
set_option linter.all false
set_option maxRecDepth 100000
set_option maxHeartbeats 4000000
namespace J
open PySem L2 PyProof.Rows

/-! ### frames -/
def Imm : HO → Prop
  | .tup _ => True
  | .frz _ _ => True
  | _ => False
/-- all but what stands at the addresses S is as it was; tuples and locked things stay in any case -/
structure But (S : List Addr) (H H' : Hp) : Prop where
  keep : ∀ b o, H b = some o → b ∉ S → H' b = some o
  imm : ∀ b o, H b = some o → Imm o → H' b = some o
  live : ∀ b, H b ≠ none → H' b ≠ none
section
variable {S T : List Addr} {H H' H1 H2 : Hp} {a b p : Addr} {o o' : HO} {K : PySem.W.Frag} {xs : List V}
theorem But.refl : But S H H := ⟨fun _ _ e _ => e, fun _ _ e _ => e, fun _ e => e⟩
theorem But.trans (h : But S H H1) (h' : But S H1 H2) : But S H H2 :=
  ⟨fun b o e n => h'.keep b o (h.keep b o e n) n, fun b o e i => h'.imm b o (h.imm b o e i) i, fun b e => h'.live b (h.live b e)⟩
theorem But.sub (h : But S H H') (hs : ∀ s ∈ S, s ∈ T) : But T H H' :=
  ⟨fun b o e n => h.keep b o e fun z => n (hs b z), h.imm, h.live⟩
theorem But.of_same (h : Same H H') : But S H H' := ⟨fun b o e _ => h b o e, fun b o e _ => h b o e, fun b e => by
  cases q : H b with
  | none => exact absurd q e
  | some o => rw [h b o q]; exact fun z => nomatch z⟩
theorem But.same (h : But [] H H') : Same H H' := fun b o e => h.keep b o e (by simp)
theorem But.new (h : H p = none) : But S H (upd H p o) := But.of_same fun b u e => by
  rw [upd_ne (ne_of_none e h)]; exact e
theorem But.write (h : H p = some o) (ni : ¬ Imm o) (hp : p ∈ S) : But S H (upd H p o') :=
  ⟨fun b u e n => by rw [upd_ne (fun z : b = p => n (by rw [z]; exact hp))]; exact e,
   fun b u e i => by
    have hb : b ≠ p := fun z => by subst z; rw [h] at e; cases e; exact ni i
    rw [upd_ne hb]; exact e,
   fun b e => by
    by_cases hb : b = p
    · rw [hb, upd_same]; exact fun z => nomatch z
    · rw [upd_ne hb]; exact e⟩
theorem But.drop (h : But (p :: S) H H') (hp : H p = none) : But S H H' :=
  ⟨fun b o e n => h.keep b o e fun z => (List.mem_cons.mp z).elim (fun q => ne_of_none e hp q) n, h.imm, h.live⟩
theorem But.at (h : But S H H') (e : H a = some o) (n : a ∉ S) : H' a = some o := h.keep a o e n
theorem But.tup (h : But S H H') (e : H a = some (.tup xs)) : H' a = some (.tup xs) := h.imm a _ e trivial
theorem But.free (h : But S H H') (e : H' p = none) : H p = none := Decidable.byContradiction fun q => h.live p q e
theorem But.rdT (h : But S H H') (e : Rd H a (.tup xs)) : Rd H' a (.tup xs) := by
  rcases e with e | ⟨o, e⟩
  · exact .inl (h.imm _ _ e trivial)
  · exact .inr ⟨o, h.imm _ _ e trivial⟩
theorem But.sqT (h : But S H H') (e : SqT K H a xs) : SqT K H' a xs := e.imp h.rdT id
theorem But.rdL (h : But S H H') (e : Rd H a (.lst xs)) (n : a ∉ S) : Rd H' a (.lst xs) := by
  rcases e with e | ⟨o, e⟩
  · exact .inl (h.keep _ _ e n)
  · exact .inr ⟨o, h.imm _ _ e trivial⟩
theorem But.sqL (h : But S H H') (e : SqL K H a xs) (n : a ∉ S) : SqL K H' a xs := e.imp (fun z => h.rdL z n) id
theorem live_of (e : H a = some o) : H a ≠ none := by rw [e]; exact fun z => nomatch z
/-- a store, its heap by a name -/
theorem upd_ex (h : H p = some (.lst xs)) {o' : HO} : ∃ H', upd H p o' = H' ∧ But [p] H H' ∧ H' p = some o' :=
  ⟨_, rfl, But.write h (fun z => z) (by simp), upd_same⟩
theorem upd_exD {kvs : List (Key × V)} (h : H p = some (.dK kvs)) {o' : HO} : ∃ H', upd H p o' = H' ∧ But [p] H H' ∧ H' p = some o' :=
  ⟨_, rfl, But.write h (fun z => z) (by simp), upd_same⟩
theorem upd_exI {C dx : Addr} {fs : List (Str × V)} (h : H p = some (.ins C dx fs)) {o' : HO} : ∃ H', upd H p o' = H' ∧ But [p] H H' ∧ H' p = some o' :=
  ⟨_, rfl, But.write h (fun z => z) (by simp), upd_same⟩
/-- the addresses are in use -/
def Live (S : List Addr) (H : Hp) : Prop := ∀ s ∈ S, H s ≠ none
theorem Live.nil : Live [] H := fun _ z => nomatch z
theorem Live.cons (e : H a = some o) (h : Live S H) : Live (a :: S) H := fun s hs =>
  (List.mem_cons.mp hs).elim (fun q => by rw [q]; exact live_of e) (h s)
theorem Live.but (h : Live S H) (b : But T H H') : Live S H' := fun s hs => b.live s (h s hs)
theorem Live.ne (h : Live S H) (e : H p = none) : p ∉ S := fun z => h p z e
end

section
variable {S T : List Addr} {H H' H1 : Hp} {a b : Addr} {o : HO} {xs : List V} {K : PySem.W.Frag}
theorem ni_cons (h : a ≠ b) (h' : a ∉ S) : a ∉ b :: S := fun z => (List.mem_cons.mp z).elim h h'
theorem same_at (h : Same H H') (e : H a = some o) : H' a = some o := h a o e
theorem but_at (h : But S H H') (e : H a = some o) (n : a ∉ S) : H' a = some o := h.keep a o e n
theorem but_tup (h : But S H H') (e : H a = some (.tup xs)) : H' a = some (.tup xs) := h.tup e
theorem same_sqL (h : Same H H') (e : SqL K H a xs) : SqL K H' a xs := h.seq e
theorem same_sqT (h : Same H H') (e : SqT K H a xs) : SqT K H' a xs := (But.of_same (S := []) h).sqT e
theorem but_sqT (h : But S H H') (e : SqT K H a xs) : SqT K H' a xs := h.sqT e
theorem but_sqL (h : But S H H') (e : SqL K H a xs) (n : a ∉ S) : SqL K H' a xs := h.sqL e n
theorem lv_same (b : Same H H') (h : H a ≠ none) : H' a ≠ none := (But.of_same (S := []) b).live a h
theorem lv_but (b : But S H H') (h : H a ≠ none) : H' a ≠ none := b.live a h
theorem ne_live (h : H a ≠ none) (e : H b = none) : b ≠ a := fun z => h (z ▸ e)
/-- what was in use is in use -/
def Le (H H' : Hp) : Prop := ∀ b, H b ≠ none → H' b ≠ none
theorem Le.refl : Le H H := fun _ h => h
theorem le_same (h : Le H H1) (b : Same H1 H') : Le H H' := fun a e => (But.of_same (S := []) b).live a (h a e)
theorem le_but (h : Le H H1) (b : But T H1 H') : Le H H' := fun a e => b.live a (h a e)
theorem fr_le (h : Le H H') (e : H' a = none) : H a = none := Decidable.byContradiction fun q => h a q e
theorem bt_same (h : But S H H1) (b : Same H1 H') : But S H H' := h.trans (But.of_same b)
theorem bt_but (h : But S H H1) (b : But T H1 H') (c : ∀ t ∈ T, t ∈ S ∨ H t = none) : But S H H' :=
  ⟨fun x o e n => b.keep x o (h.keep x o e n) fun z => (c x z).elim n (fun q => ne_of_none e q rfl),
   fun x o e i => b.imm x o (h.imm x o e i) i, fun x e => b.live x (h.live x e)⟩
theorem sub_nil : ∀ s ∈ ([] : List Addr), s ∈ S := fun _ z => nomatch z
theorem sub_cons (h : a ∈ S) (k : ∀ s ∈ T, s ∈ S) : ∀ s ∈ a :: T, s ∈ S := fun t z => (List.mem_cons.mp z).elim (fun q => q ▸ h) (k t)
theorem bc_nil : ∀ t ∈ ([] : List Addr), t ∈ S ∨ H t = none := fun _ z => nomatch z
theorem bc_in (h : a ∈ S) (k : ∀ t ∈ T, t ∈ S ∨ H t = none) : ∀ t ∈ a :: T, t ∈ S ∨ H t = none :=
  fun t z => (List.mem_cons.mp z).elim (fun q => .inl (q ▸ h)) (k t)
theorem bc_fr (h : H a = none) (k : ∀ t ∈ T, t ∈ S ∨ H t = none) : ∀ t ∈ a :: T, t ∈ S ∨ H t = none :=
  fun t z => (List.mem_cons.mp z).elim (fun q => .inr (q ▸ h)) (k t)
end
/-! ### data: none of its lists is one of S -/
mutual
inductive Dn (K : PySem.W.Frag) (S : List Addr) (H : Hp) : V → PyData → Prop
  | non : Dn K S H .non .none
  | bl (b : Bool) : Dn K S H (.bl b) (.bool b)
  | int (i : Int) : Dn K S H (.int i) (.int i)
  | str (x : Str) : Dn K S H (.str x) (.str x)
  | lst {a : Addr} {xs : List V} {ds : List PyData} : H a = some (.lst xs) → a ∉ S → DnAll K S H xs ds → Dn K S H (.ref a) (.list ds)
  | tup {a : Addr} {xs : List V} {ds : List PyData} : SqT K H a xs → DnAll K S H xs ds → Dn K S H (.ref a) (.tuple ds)
inductive DnAll (K : PySem.W.Frag) (S : List Addr) (H : Hp) : List V → List PyData → Prop
  | nil : DnAll K S H [] []
  | cons {v : V} {vs : List V} {d : PyData} {ds : List PyData} : Dn K S H v d → DnAll K S H vs ds → DnAll K S H (v :: vs) (d :: ds)
end
section
variable {S T : List Addr} {H H' : Hp} {K : PySem.W.Frag} {v : V} {d : PyData} {vs ws : List V} {ds es : List PyData}
theorem Dn.map (hl : ∀ a xs, H a = some (.lst xs) → a ∉ S → H' a = some (.lst xs) ∧ a ∉ T) (ht : ∀ a xs, SqT K H a xs → SqT K H' a xs)
    (h : Dn K S H v d) : Dn K T H' v d := by
  refine Dn.rec (motive_1 := fun v d _ => Dn K T H' v d) (motive_2 := fun vs ds _ => DnAll K T H' vs ds) ?_ ?_ ?_ ?_ ?_ ?_ ?_ ?_ h
  · exact .non
  · exact .bl
  · exact .int
  · exact .str
  · intro a xs ds h1 h2 _ h4
    obtain ⟨q1, q2⟩ := hl a xs h1 h2
    exact .lst q1 q2 h4
  · intro a xs ds h1 _ h3
    exact .tup (ht a xs h1) h3
  · exact .nil
  · intro v vs d ds _ _ h1 h2
    exact .cons h1 h2
theorem DnAll.each (f : ∀ v d, Dn K S H v d → Dn K T H' v d) : ∀ {vs : List V} {ds : List PyData}, DnAll K S H vs ds → DnAll K T H' vs ds
  | _, _, .nil => .nil
  | _, _, .cons h t => .cons (f _ _ h) (DnAll.each f t)
theorem Dn.but (b : But T H H') (h : Dn K S H v d) (hs : ∀ s ∈ T, s ∈ S) : Dn K S H' v d :=
  h.map (fun _ _ r n => ⟨b.at r fun z => n (hs _ z), n⟩) fun _ _ r => b.sqT r
theorem Dn.same (b : Same H H') (h : Dn K S H v d) : Dn K S H' v d := h.but (But.of_same (S := []) b) (by simp)
theorem Dn.sub (h : Dn K S H v d) (hs : ∀ s ∈ T, s ∈ S) : Dn K T H v d := h.map (fun _ _ r n => ⟨r, fun z => n (hs _ z)⟩) fun _ _ r => r
theorem rd_live {a : Addr} {u : HO} (r : Rd H a u) : H a ≠ none := by
  rcases r with r | ⟨o, r⟩ <;> rw [r] <;> exact fun z => nomatch z
theorem Dn.fresh {p : Addr} (h : Dn K S H v d) (hp : H p = none) : Dn K (p :: S) H v d :=
  h.map (fun a _ r n => ⟨r, fun z => (List.mem_cons.mp z).elim (fun q => live_of r (q ▸ hp)) n⟩) fun _ _ r => r
theorem DnAll.but (b : But T H H') (h : DnAll K S H vs ds) (hs : ∀ s ∈ T, s ∈ S) : DnAll K S H' vs ds := h.each fun _ _ q => q.but b hs
theorem DnAll.same (b : Same H H') (h : DnAll K S H vs ds) : DnAll K S H' vs ds := h.each fun _ _ q => q.same b
theorem DnAll.sub (h : DnAll K S H vs ds) (hs : ∀ s ∈ T, s ∈ S) : DnAll K T H vs ds := h.each fun _ _ q => q.sub hs
theorem DnAll.fresh {p : Addr} (h : DnAll K S H vs ds) (hp : H p = none) : DnAll K (p :: S) H vs ds := h.each fun _ _ q => q.fresh hp
theorem DnAll.append : ∀ {vs : List V} {ds : List PyData}, DnAll K S H vs ds → DnAll K S H ws es → DnAll K S H (vs ++ ws) (ds ++ es)
  | _, _, .nil, h => h
  | _, _, .cons h t, h' => .cons h (DnAll.append t h')
theorem DnAll.snoc (h : DnAll K S H vs ds) (h' : Dn K S H v d) : DnAll K S H (vs ++ [v]) (ds ++ [d]) := h.append (.cons h' .nil)
theorem DnAll.length : ∀ {vs : List V} {ds : List PyData}, DnAll K S H vs ds → vs.length = ds.length
  | _, _, .nil => rfl
  | _, _, .cons _ t => congrArg (· + 1) (DnAll.length t)
theorem DnAll.get : ∀ {vs : List V} {ds : List PyData} {i : Nat} {x : V}, DnAll K S H vs ds → vs[i]? = some x → ∃ d, ds[i]? = some d ∧ Dn K S H x d
  | _, _, _, _, .nil, e => by simp at e
  | _, _, 0, _, .cons h _, e => by
    obtain rfl : _ = _ := Option.some.inj e
    exact ⟨_, rfl, h⟩
  | _, _, i + 1, x, .cons _ t, e => by
    obtain ⟨d, h1, h2⟩ := DnAll.get (i := i) t (by simpa using e)
    exact ⟨d, by simpa using h1, h2⟩
theorem DnAll.getD : ∀ {vs : List V} {ds : List PyData} {i : Nat} {d : PyData}, DnAll K S H vs ds → ds[i]? = some d → ∃ x, vs[i]? = some x ∧ Dn K S H x d
  | _, _, _, _, .nil, e => by simp at e
  | _, _, 0, _, .cons h _, e => by
    obtain rfl : _ = _ := Option.some.inj e
    exact ⟨_, rfl, h⟩
  | _, _, i + 1, x, .cons _ t, e => by
    obtain ⟨d, h1, h2⟩ := DnAll.getD (i := i) t (by simpa using e)
    exact ⟨d, by simpa using h1, h2⟩
theorem DnAll.drop : ∀ {vs : List V} {ds : List PyData} (n : Nat), DnAll K S H vs ds → DnAll K S H (vs.drop n) (ds.drop n)
  | _, _, 0, h => h
  | _, _, _ + 1, .nil => .nil
  | _, _, n + 1, .cons _ t => DnAll.drop n t
theorem DnAll.take : ∀ {vs : List V} {ds : List PyData} (n : Nat), DnAll K S H vs ds → DnAll K S H (vs.take n) (ds.take n)
  | _, _, 0, _ => .nil
  | _, _, _ + 1, .nil => .nil
  | _, _, n + 1, .cons h t => .cons h (DnAll.take n t)
theorem DnAll.ints : ∀ {ns : List Int}, DnAll K S H (ns.map V.int) (ns.map PyData.int)
  | [] => .nil
  | _ :: _ => .cons (.int _) DnAll.ints
theorem DnAll.ints_of : ∀ {vs : List V} {ns : List Int}, DnAll K S H vs (ns.map PyData.int) → vs = ns.map V.int
  | _, [], .nil => rfl
  | _, _ :: _, .cons h t => by
    cases h
    exact congrArg _ (DnAll.ints_of t)
theorem DnAll.one (h : Dn K S H v d) : DnAll K S H [v] [d] := .cons h .nil
theorem Dn.dp (h : Dn K S H v d) : Dp K H v d := by
  refine Dn.rec (motive_1 := fun v d _ => Dp K H v d) (motive_2 := fun vs ds _ => DpAll K H vs ds) ?_ ?_ ?_ ?_ ?_ ?_ ?_ ?_ h
  · exact .non
  · exact .bl
  · exact .int
  · exact .str
  · intro a xs ds h1 _ _ h4
    exact .lst (SqL.of h1) h4
  · intro a xs ds h1 _ h3
    exact .tup h1 h3
  · exact .nil
  · intro v vs d ds _ _ h1 h2
    exact .cons h1 h2
end
end J

set_option Elab.async false
set_option linter.all false
set_option maxRecDepth 100000
set_option maxHeartbeats 4000000
namespace J
open PySem L2 PyProof.Rows

/-! ### operators whatever the values' kinds -/
def rCatS : R2 := fun x y H Q => ∃ i j, x = .str i ∧ y = .str j ∧ i.length + j.length ≤ sizeLine ∧ Q (.str (i ++ j)) H
def rAddA (K : PySem.W.Frag) : R2 := fun x y H Q => rI0 (fun i j => .int (i + j)) x y H Q ∨ (rCatS x y H Q ∨ (rCat x y H Q ∨ rCatA K x y H Q))
def rMulA (K : PySem.W.Frag) : R2 := fun x y H Q => rI CMul (fun i j => .int (i * j)) x y H Q ∨ (rRep x y H Q ∨ rRepT K x y H Q)
def rEqA (K : PySem.W.Frag) : R2 := fun x y H Q => rEq x y H Q ∨ rEqD K x y H Q
def rNeA (K : PySem.W.Frag) : R2 := fun x y H Q => rNe x y H Q ∨ rNeD K x y H Q
def rLtS : R2 := fun x y H Q => ∃ i j, x = .str i ∧ y = .str j ∧ Q (.bl (decide (i.cps.toList < j.cps.toList))) H
def rLtA : R2 := fun x y H Q => rI0 (fun i j => .bl (decide (i < j))) x y H Q ∨ rLtS x y H Q
/-- in a tuple of data -/
def rInDT (K : PySem.W.Frag) : R2 := fun x y H Q => ∃ d ds, Dp K H x d ∧ Dp K H y (.tuple ds) ∧ SeqAt.shaped d = true ∧ SeqAt.shaped (.tuple ds) = true ∧ Q (.bl (ds.any fun z => PyData.eqv z d)) H
def rNiDT (K : PySem.W.Frag) : R2 := fun x y H Q => ∃ d ds, Dp K H x d ∧ Dp K H y (.tuple ds) ∧ SeqAt.shaped d = true ∧ SeqAt.shaped (.tuple ds) = true ∧ Q (.bl (!ds.any fun z => PyData.eqv z d)) H
theorem op_inDT {X : Cx} (hu : X.A.units + 65 < cLine) : OpR X (compareOp .In) (rInDT X.K) := by
  rintro pins s σ H x y v u Q I rx ry ⟨d, ds, hd, he, sd, se, q⟩
  obtain ⟨_, r1⟩ := Dp.reads I d x v hd rx
  obtain ⟨_, r2⟩ := Dp.reads I (.tuple ds) y u he ry
  refine SeqAt.in_tuple_reads r2 r1 (SeqAt.canLay_of_shaped se) (SeqAt.canLay_of_shaped sd) ?_ ⟨.bl _, H, I, rfl, q⟩
  have := SeqAt.depth_of_shaped sd
  omega
theorem op_niDT {X : Cx} (hu : X.A.units + 65 < cLine) : OpR X (compareOp .NotIn) (rNiDT X.K) := by
  rintro pins s σ H x y v u Q I rx ry ⟨d, ds, hd, he, sd, se, q⟩
  obtain ⟨_, r1⟩ := Dp.reads I d x v hd rx
  obtain ⟨_, r2⟩ := Dp.reads I (.tuple ds) y u he ry
  refine SeqAt.notIn_tuple_reads r2 r1 (SeqAt.canLay_of_shaped se) (SeqAt.canLay_of_shaped sd) ?_ ⟨.bl _, H, I, rfl, q⟩
  have := SeqAt.depth_of_shaped sd
  omega
def rInA (K : PySem.W.Frag) : R2 := fun x y H Q => rIn K false x y H Q ∨ (rInD K x y H Q ∨ rInDT K x y H Q)
def rNiA (K : PySem.W.Frag) : R2 := fun x y H Q => rIn K true x y H Q ∨ (rNotInD K x y H Q ∨ rNiDT K x y H Q)
def rIadd : R2 := fun x y H Q => rI0 (fun i j => .int (i + j)) x y H Q ∨ (rCatS x y H Q ∨ rExt2 x y H Q)
theorem units65 {k : Nat} {A : Around} (r : Room k A) : A.units + 65 < cLine := by have := r.un; omega
def rLenA (K : PySem.W.Frag) : List V → Hp → VK → Prop := fun xs H Q => ∃ x n, xs = [x] ∧ LenV K x H n ∧ Q (.int n) H
def rListA (K : PySem.W.Frag) : List V → Hp → VK → Prop := fun xs H Q => ∃ p ys, xs = [.ref p] ∧ (SqL K H p ys ∨ SqT K H p ys) ∧ ∀ l, H l = none → Q (.ref l) (upd H l (.lst ys))
def rTupA (K : PySem.W.Frag) : List V → Hp → VK → Prop := fun xs H Q => ∃ p ys, xs = [.ref p] ∧ ((SqL K H p ys ∧ ∀ l, H l = none → Q (.ref l) (upd H l (.tup ys))) ∨ (SqT K H p ys ∧ Q (.ref p) H))
def tTruA (K : PySem.W.Frag) (ta : TE) : TT := fun σ H R => ta σ H fun x H' => ∃ k, TruV K x H' k ∧ R k H'
def rSlAny (K : PySem.W.Frag) : V → Option Int → Option Int → Hp → VK → Prop := fun x lo hi H Q => rSlL K x lo hi H Q ∨ rSlA K x lo hi H Q
section
variable {X : Cx} {K : PySem.W.Frag}
theorem op_addA (e : X.K = K := by rfl) : OpR X (binaryOp .Add) (rAddA K) := by
  subst e; exact OpR.or op_add (OpR.or op_add_str (OpR.or op_cat op_catA))
theorem op_mulA (e : X.K = K := by rfl) : OpR X (binaryOp .Mult) (rMulA K) := by
  subst e; exact OpR.or op_mul (OpR.or op_rep op_repT)
theorem op_eqA (hu : X.A.units + 64 < cLine) (e : X.K = K := by rfl) : OpR X (compareOp .Eq) (rEqA K) := by
  subst e; exact OpR.or op_eq (op_eqD hu)
theorem op_neA (hu : X.A.units + 64 < cLine) (e : X.K = K := by rfl) : OpR X (compareOp .NotEq) (rNeA K) := by
  subst e; exact OpR.or op_ne (op_neD hu)
theorem op_ltA : OpR X (compareOp .Lt) rLtA := OpR.or op_lt op_lt_str
theorem op_inA (hu : X.A.units + 65 < cLine) (e : X.K = K := by rfl) : OpR X (compareOp .In) (rInA K) := by
  subst e; exact OpR.or op_in_seq (OpR.or (op_inD hu) (op_inDT hu))
theorem op_niA (hu : X.A.units + 65 < cLine) (e : X.K = K := by rfl) : OpR X (compareOp .NotIn) (rNiA K) := by
  subst e; exact OpR.or op_notIn_seq (OpR.or (op_notInD hu) (op_niDT hu))
theorem ip_addA : PIp X .Add rIadd := OpR.or (f := inplaceOp .Add) iop_add (OpR.or (f := inplaceOp .Add) iop_add_str iop_ext)
theorem ip_subA : PIp X .Sub (rI0 fun i j => .int (i - j)) := iop_sub
theorem ix_any (e : X.K = K := by rfl) : IxR X (rIx K) := by subst e; exact ix_seq
theorem sl_any (e : X.K = K := by rfl) : SlR X (rSlAny K) := by subst e; exact SlR.or sl_list sl_tupA
theorem call_lenA (e : X.K = K := by rfl) : CallR X (.builtin "len") (rLenA K) := by subst e; exact call_len
theorem call_listA (e : X.K = K := by rfl) : CallR X (.type "list") (rListA K) := by subst e; exact call_list_of
theorem call_tupleA (e : X.K = K := by rfl) : CallR X (.type "tuple") (rTupA K) := by subst e; exact call_tuple_of
theorem call_reprA (hg : X.A.guards = some []) (hu : X.A.units + 64 < cLine) (e : X.K = K := by rfl) :
    CallR X (.builtin "repr") (rRepr K) := by subst e; exact call_reprD hg hu
theorem call_sortedPA (e : X.K = K := by rfl) : CallR X (.builtin "sorted") (rSortedPO K) := by subst e; exact cr_sortedPO
theorem call_sortedIA (e : X.K = K := by rfl) : CallR X (.builtin "sorted") (rSortedI K) := by subst e; exact cr_sortedI
theorem call_sumA (hc : X.calm = true) (e : X.K = K := by rfl) : CallR X (.builtin "sum") (rSum K) := by subst e; exact cr_sum hc
theorem call_allA (hc : X.calm = true) (e : X.K = K := by rfl) : CallR X (.builtin "all") (rAll K) := by subst e; exact cr_all hc
theorem call_anyA (hc : X.calm = true) (e : X.K = K := by rfl) : CallR X (.builtin "any") (rAny K) := by subst e; exact cr_any hc
theorem pi_lst {tg l : Expr} {tl : TE} (hl : PE X l tl) (e : X.K = K := by rfl) : PI X tg l (iList K tl) := by subst e; exact pi_list hl
theorem pi_tpl {tg l : Expr} {tl : TE} (hl : PE X l tl) (e : X.K = K := by rfl) : PI X tg l (iTup K tl) := by subst e; exact pi_tup hl
theorem pe_fldA {x : Expr} {ta : TE} {f : Str} {pos : Pos} (he : PE X x ta) (hb : attributeBase x f X.env (eval x X.env) = eval x X.env := by rfl)
    (e : X.K = K := by rfl) : PE X (.Attribute x f pos) (tFld K ta f) := by subst e; exact pe_fld he hb
theorem pt_tru {a : Expr} {ta : TE} (ha : PE X a ta) (he : ∀ whole, isTrue a X.env whole = (do let v ← whole; standAt a.pos; holding [v] (truthy v)) := by intro _; rfl)
    (e : X.K = K := by rfl) : PT X a (tTruA K ta) := by subst e; exact pt_truth ha he
theorem pg_tpl {es : List Expr} {k n : Nat} {t : TGs} {pos : Pos} (hc : X.calm = true) (h : PGs X es t)
    (hn : (assignEach es X.env).length = n := by rfl) (hst : (assignEach es X.env).findIdx? (·.1) = none := by rfl)
    (e : X.K = K := by rfl) : PG X (.Tuple es k pos) (gTup K n t) := by subst e; exact pg_tup hc h hn hst
end

section
variable {σ : L2.St} {H H' H1 : Hp} {K : PySem.W.Frag} {Q : VK} {i j : Int} {n : Nat} {v x y : V} {te ta tb : TE} {p q : Addr} {xs ys : List V}
  {D : Ends} {t u : TS} {R : Bool → Hp → Prop}
/-! ### expressions -/
theorem r_var (h : σ[n]? = some (some v)) (k : Q v H) : tVar n σ H Q := ⟨v, h, k⟩
theorem r_c (k : Q v H) : tC v σ H Q := k
theorem r_op {r : R2} (k : ta σ H fun x H1 => tb σ H1 fun y H2 => r x y H2 Q) : tOp r ta tb σ H Q := k
theorem r_un {r : V → Hp → VK → Prop} (k : ta σ H fun x H1 => r x H1 Q) : tUn r ta σ H Q := k
theorem r_I0 {g : Int → Int → V} (k : Q (g i j) H) : rI0 g (.int i) (.int j) H Q := ⟨i, j, rfl, rfl, k⟩
theorem r_I {C : Int → Int → Prop} {g : Int → Int → V} (c : C i j) (k : Q (g i j) H) : rI C g (.int i) (.int j) H Q := ⟨i, j, rfl, rfl, c, k⟩
theorem r_U {g : Int → V} (k : Q (g i) H) : rU g (.int i) H Q := ⟨i, rfl, k⟩
theorem r_addI (k : Q (.int (i + j)) H) : rAddA K (.int i) (.int j) H Q := .inl ⟨i, j, rfl, rfl, k⟩
theorem r_addS {a b : Str} (c : a.length + b.length ≤ sizeLine) (k : Q (.str (a ++ b)) H) : rAddA K (.str a) (.str b) H Q := .inr (.inl ⟨a, b, rfl, rfl, c, k⟩)
theorem r_addL (h1 : H p = some (.lst xs)) (h2 : H q = some (.lst ys)) (c : xs.length + ys.length ≤ sizeLine)
    (k : ∀ l H', H l = none → Same H H' → H' l = some (.lst (xs ++ ys)) → Q (.ref l) H') : rAddA K (.ref p) (.ref q) H Q :=
  .inr (.inr (.inl ⟨p, q, xs, ys, rfl, rfl, h1, h2, c, fun l hl => k l _ hl (But.new (S := []) hl).same upd_same⟩))
theorem r_mulI (c : CMul i j) (k : Q (.int (i * j)) H) : rMulA K (.int i) (.int j) H Q := .inl ⟨i, j, rfl, rfl, c, k⟩
theorem mulL (h : -(2 ^ 64) < i) (h' : i < 2 ^ 64) : CMul i j := .inl ⟨h, h'⟩
theorem mulR (h : -(2 ^ 64) < j) (h' : j < 2 ^ 64) : CMul i j := .inr ⟨h, h'⟩
theorem dec_int : decide (V.int i = V.int j) = decide (i = j) := by
  by_cases h : i = j
  · subst h; simp
  · rw [decide_eq_false h, decide_eq_false fun z => h (V.int.inj z)]
theorem dec_str {a b : Str} : decide (V.str a = V.str b) = decide (a = b) := by
  by_cases h : a = b
  · subst h; simp
  · rw [decide_eq_false h, decide_eq_false fun z => h (V.str.inj z)]
theorem dec_bl {a b : Bool} : decide (V.bl a = V.bl b) = decide (a = b) := by
  by_cases h : a = b
  · subst h; simp
  · rw [decide_eq_false h, decide_eq_false fun z => h (V.bl.inj z)]
theorem r_eqI (k : Q (.bl (decide (i = j))) H) : rEqA K (.int i) (.int j) H Q := .inl ⟨rfl, by rw [dec_int]; exact k⟩
theorem r_eqS {a b : Str} (k : Q (.bl (decide (a = b))) H) : rEqA K (.str a) (.str b) H Q := .inl ⟨rfl, by rw [dec_str]; exact k⟩
theorem r_eqB {a b : Bool} (k : Q (.bl (decide (a = b))) H) : rEqA K (.bl a) (.bl b) H Q := .inl ⟨rfl, by rw [dec_bl]; exact k⟩
theorem r_eqD {d e : PyData} (h1 : Dp K H x d) (h2 : Dp K H y e) (s1 : SeqAt.shaped d = true) (s2 : SeqAt.shaped e = true) (k : Q (.bl (PyData.eqv d e)) H) : rEqA K x y H Q :=
  .inr ⟨d, e, h1, h2, s1, s2, k⟩
theorem r_neI (k : Q (.bl (!decide (i = j))) H) : rNeA K (.int i) (.int j) H Q := .inl ⟨rfl, by rw [dec_int]; exact k⟩
theorem r_neS {a b : Str} (k : Q (.bl (!decide (a = b))) H) : rNeA K (.str a) (.str b) H Q := .inl ⟨rfl, by rw [dec_str]; exact k⟩
theorem r_neB {a b : Bool} (k : Q (.bl (!decide (a = b))) H) : rNeA K (.bl a) (.bl b) H Q := .inl ⟨rfl, by rw [dec_bl]; exact k⟩
theorem r_neD {d e : PyData} (h1 : Dp K H x d) (h2 : Dp K H y e) (s1 : SeqAt.shaped d = true) (s2 : SeqAt.shaped e = true) (k : Q (.bl (!PyData.eqv d e)) H) : rNeA K x y H Q :=
  .inr ⟨d, e, h1, h2, s1, s2, k⟩
theorem r_ltI (k : Q (.bl (decide (i < j))) H) : rLtA (.int i) (.int j) H Q := .inl ⟨i, j, rfl, rfl, k⟩
theorem r_ltS {a b : Str} (k : Q (.bl (decide (a.cps.toList < b.cps.toList))) H) : rLtA (.str a) (.str b) H Q := .inr ⟨a, b, rfl, rfl, k⟩
/-- i in ints -/
theorem inV_int {ns : List Int} {i : Int} : inV (.int i) (ns.map V.int) = decide (i ∈ ns) := by
  unfold inV
  induction ns with
  | nil => rfl
  | cons a l ih =>
    rw [List.map_cons, List.any_cons, ih]
    have e : eqV (V.int a) (V.int i) = decide (a = i) := Bool.beq_eq_decide_eq a i
    rw [e, ← Bool.decide_or]
    exact decide_eq_decide.mpr (by rw [List.mem_cons, eq_comm])
theorem flat_ints (ns : List Int) : (ns.map V.int).all flatV = true := by
  rw [List.all_eq_true]
  intro v hv
  obtain ⟨i, _, rfl⟩ := List.mem_map.mp hv
  rfl
theorem r_inL {ns : List Int} (h : SqL K H p (ns.map V.int)) (k : Q (.bl (decide (i ∈ ns))) H) : rInA K (.int i) (.ref p) H Q :=
  .inl ⟨p, _, rfl, .inl h, rfl, flat_ints ns, by rw [inV_int]; exact k⟩
theorem r_inT {ns : List Int} (h : SqT K H p (ns.map V.int)) (k : Q (.bl (decide (i ∈ ns))) H) : rInA K (.int i) (.ref p) H Q :=
  .inl ⟨p, _, rfl, .inr h, rfl, flat_ints ns, by rw [inV_int]; exact k⟩
theorem r_niL {ns : List Int} (h : SqL K H p (ns.map V.int)) (k : Q (.bl (!decide (i ∈ ns))) H) : rNiA K (.int i) (.ref p) H Q :=
  .inl ⟨p, _, rfl, .inl h, rfl, flat_ints ns, by rw [inV_int]; exact k⟩
theorem r_niT {ns : List Int} (h : SqT K H p (ns.map V.int)) (k : Q (.bl (!decide (i ∈ ns))) H) : rNiA K (.int i) (.ref p) H Q :=
  .inl ⟨p, _, rfl, .inr h, rfl, flat_ints ns, by rw [inV_int]; exact k⟩
/-- subscripts -/
theorem r_ixL (h : SqL K H p xs) (a : atI xs i = some v) (k : Q v H) : rIx K (.ref p) (.int i) H Q := .inl ⟨p, xs, i, v, rfl, rfl, h, a, k⟩
theorem r_ixT (h : SqT K H p xs) (a : atI xs i = some v) (k : Q v H) : rIx K (.ref p) (.int i) H Q := .inr (.inl ⟨p, xs, i, v, rfl, rfl, h, a, k⟩)
/-- displays -/
theorem r_nil {R : List V → Hp → Prop} (k : R [] H) : tNil σ H R := k
theorem r_cons {tr : TA} {R : List V → Hp → Prop} (k : ta σ H fun x H1 => tr σ H1 fun xs H2 => R (x :: xs) H2) : tCons ta tr σ H R := k
def NewT (Q : VK) (xs : List V) (H : Hp) : Prop := xs.length ≤ sizeLine ∧ ∀ p, H p = none → Q (.ref p) (upd H p (.tup xs))
def NewL (Q : VK) (xs : List V) (H : Hp) : Prop := xs.length ≤ sizeLine ∧ ∀ p, H p = none → Q (.ref p) (upd H p (.lst xs))
theorem r_tup {ta : TA} (k : ta σ H fun xs H1 => NewT Q xs H1) : tTup ta σ H Q := k
theorem r_lst {ta : TA} (k : ta σ H fun xs H1 => NewL Q xs H1) : tLst ta σ H Q := k
theorem r_newT (c : xs.length ≤ sizeLine) (k : ∀ p H', H p = none → Same H H' → H' p = some (.tup xs) → Q (.ref p) H') : NewT Q xs H :=
  ⟨c, fun p hp => k p _ hp (But.new (S := []) hp).same upd_same⟩
theorem r_newL (c : xs.length ≤ sizeLine) (k : ∀ p H', H p = none → Same H H' → H' p = some (.lst xs) → Q (.ref p) H') : NewL Q xs H :=
  ⟨c, fun p hp => k p _ hp (But.new (S := []) hp).same upd_same⟩
/-- built-ins -/
theorem r_CB {r : List V → Hp → VK → Prop} {ta : TA} (k : ta σ H fun vs H1 => r vs H1 Q) : tCB r ta σ H Q := k
theorem r_callS {sp : Sp} {E : L2.St → XK} {ta : TA} (k : ta σ H fun vs H1 => sp vs H1 Q (E σ)) : tCallS sp E ta σ H Q := k
theorem r_if {tt : TT} (k : tt σ H fun b H1 => if b = true then ta σ H1 Q else tb σ H1 Q) : tIf tt ta tb σ H Q := k
/-! ### tests -/
theorem r_test (k : te σ H fun x H' => ∃ k, x = .bl k ∧ R k H') : tTest te σ H R := k
theorem r_tB (k : te σ H fun x H' => ∃ k, x = .bl k ∧ R k H') : tB te σ H R := k
theorem r_and {a b : TT} (k : a σ H fun c H1 => if c = true then b σ H1 R else R false H1) : tAnd a b σ H R := k
theorem r_or {a b : TT} (k : a σ H fun c H1 => if c = true then R true H1 else b σ H1 R) : tOr a b σ H R := k
theorem r_not {a : TT} (k : a σ H fun c H1 => R (!c) H1) : tNot a σ H R := k
theorem r_exb {b : Bool} {R : Bool → Prop} (k : R b) : ∃ k, V.bl b = .bl k ∧ R k := ⟨b, rfl, k⟩
theorem r_yes (k : R true H) : tYes σ H R := k
theorem r_ite {P A B : Prop} {dp : Decidable P} (h1 : P → A) (h2 : ¬ P → B) : if decide P = true then A else B := by
  by_cases h : P
  · rw [decide_eq_true h, if_pos rfl]; exact h1 h
  · rw [decide_eq_false h, if_neg Bool.false_ne_true]; exact h2 h
theorem r_iteN {P A B : Prop} {dp : Decidable P} (h1 : ¬ P → A) (h2 : P → B) : if (!decide P) = true then A else B := by
  by_cases h : P
  · rw [decide_eq_true h]
    show if false = true then A else B
    rw [if_neg Bool.false_ne_true]; exact h2 h
  · rw [decide_eq_false h]
    show if true = true then A else B
    rw [if_pos rfl]; exact h1 h
theorem r_iteB {A B : Prop} {b : Bool} (h1 : b = true → A) (h2 : b = false → B) : if b = true then A else B := by
  cases b with
  | true => rw [if_pos rfl]; exact h1 rfl
  | false => rw [if_neg Bool.false_ne_true]; exact h2 rfl
theorem r_iteT {A B : Prop} {b : Bool} (e : b = true) (h : A) : if b = true then A else B := by rw [if_pos e]; exact h
theorem r_iteF {A B : Prop} {b : Bool} (e : b = false) (h : B) : if b = true then A else B := by rw [e, if_neg Bool.false_ne_true]; exact h
/-! ### statements -/
theorem r_seq (k : t { D with nx := u D } σ H) : tSeq t u D σ H := k
theorem r_next (k : D.nx σ H) : tNext D σ H := k
theorem r_brk (k : D.bk σ H) : tBreak D σ H := k
theorem r_cont (k : D.ct σ H) : tCont D σ H := k
theorem r_asg (k : te σ H fun x H1 => D.nx (σ.set n (some x)) H1) : tAsg te (gName n) D σ H := k
theorem r_asgG {g : TG} (k : te σ H fun x H1 => g x σ H1 D.nx) : tAsg te g D σ H := k
theorem r_drop (k : te σ H fun _ H1 => D.nx σ H1) : tDrop te D σ H := k
theorem r_ret (k : te σ H D.rt) : tRet te D σ H := k
theorem r_retN (k : D.rt .non H) : tRetN D σ H := k
theorem r_ifS {c : TT} (k : c σ H fun b H1 => if b = true then t D σ H1 else u D σ H1) : tIfS c t u D σ H := k
theorem r_aug {ti : TIp} (h : σ[n]? = some (some x)) (k : te σ H fun y H1 => ti x y H1 fun z H2 => D.nx (σ.set n (some z)) H2) : tAug n te ti D σ H := ⟨x, h, k⟩
theorem r_iaddI (k : Q (.int (i + j)) H) : rIadd (.int i) (.int j) H Q := .inl ⟨i, j, rfl, rfl, k⟩
/-! ### targets -/
theorem g_name {R : L2.St → Hp → Prop} (k : R (σ.set n (some v)) H) : gName n v σ H R := k
theorem g_tup {tg : TGs} {R : L2.St → Hp → Prop} {m : Nat} (h : SqT K H p xs) (l : xs.length = m) (k : tg xs σ H R) : gTup K m tg (.ref p) σ H R := ⟨p, xs, rfl, h, l, k⟩
theorem g_cons {g : TG} {tg : TGs} {R : L2.St → Hp → Prop} (k : g v σ H fun σ' H' => tg xs σ' H' R) : gCons g tg (v :: xs) σ H R := ⟨v, xs, rfl, k⟩
theorem g_nil {R : L2.St → Hp → Prop} (k : R σ H) : gNil [] σ H R := ⟨rfl, k⟩
theorem g_sub {to ti : TE} {ts : TSet} {R : L2.St → Hp → Prop} (k : to σ H fun o H1 => ti σ H1 fun i H2 => ts o i v H2 fun H3 => R σ H3) : gSub to ti ts v σ H R := k
theorem s_lst {R : Hp → Prop} {m : Nat} (h : H p = some (.lst xs)) (a : ixN xs.length i = some m) (k : ∀ H', But [p] H H' → H' p = some (.lst (xs.set m v)) → R H') : rSetL (.ref p) (.int i) v H R :=
  ⟨p, xs, i, m, rfl, rfl, h, a, k _ (But.write h (fun z => z) (by simp)) upd_same⟩
end
end J

set_option Elab.async false
set_option linter.all false
set_option maxRecDepth 100000
set_option maxHeartbeats 4000000
namespace J
open PySem L2 PyProof.Rows
theorem sz {n : Nat} (h : n ≤ 16777216) : n ≤ sizeLine := by rw [sizeLine_eq]; exact h
theorem szl {n : Nat} (h : n < 16777216) : n < sizeLine := by rw [sizeLine_eq]; exact h
section
variable {σ : L2.St} {H H' H1 : Hp} {K : PySem.W.Frag} {Q : VK} {i j : Int} {n : Nat} {v x y : V} {te ta tb tl : TE} {p q a l : Addr} {xs ys : List V}
  {D : Ends} {t u ts : TS} {R : Bool → Hp → Prop} {g : TG}
/-! ### for -/
abbrev Turn (g : TG) (ts : TS) (D : Ends) (N : L2.St → Hp → Prop) (x : V) (σ : L2.St) (H : Hp) : Prop :=
  g x σ H fun σ2 H2 => ts { D with nx := N, ct := N, bk := D.nx } σ2 H2
def ForL (K : PySem.W.Frag) (g : TG) (ts : TS) (D : Ends) (σ : L2.St) (x : V) (H : Hp) : Prop :=
  ∃ a, x = .ref a ∧ (∃ xs, SqL K H a xs) ∧ ∃ W : Nat → Nat → L2.St → Hp → Prop, (∃ m, W 0 m σ H) ∧ ∀ i m σ H, W i m σ H →
    ((Itl K a).stop i H ∧ D.nx σ H) ∨ ((Itl K a).go i H ∧ ∃ N : L2.St → Hp → Prop, (∀ σ' H', N σ' H' → ∃ m', m' < m ∧ W (i + 1) m' σ' H') ∧
      ∀ x H', (Itl K a).yld i H x H' → Turn g ts D N x σ H')
theorem r_forL (k : tl σ H fun x H1 => ForL K g ts D σ x H1) : tFor (iList K tl) g ts D σ H := k
theorem forL (h : SqL K H a xs) (Pv : Nat → L2.St → Hp → Prop) (h0 : Pv 0 σ H) (hl : ∀ i σ H, i ≤ xs.length → Pv i σ H → SqL K H a xs)
    (hs : ∀ i x σ H, xs[i]? = some x → Pv i σ H → Turn g ts D (Pv (i + 1)) x σ H) (hd : ∀ σ H, Pv xs.length σ H → D.nx σ H) : ForL K g ts D σ (.ref a) H :=
  ⟨a, rfl, ⟨xs, h⟩, for_list Pv h0 hl hs hd⟩
def ForT (K : PySem.W.Frag) (g : TG) (ts : TS) (D : Ends) (σ : L2.St) (x : V) (H : Hp) : Prop :=
  ∃ a, x = .ref a ∧ (∃ xs, SqT K H a xs) ∧ ∃ W : Nat → Nat → L2.St → Hp → Prop, (∃ m, W 0 m σ H) ∧ ∀ i m σ H, W i m σ H →
    ((Itt K a).stop i H ∧ D.nx σ H) ∨ ((Itt K a).go i H ∧ ∃ N : L2.St → Hp → Prop, (∀ σ' H', N σ' H' → ∃ m', m' < m ∧ W (i + 1) m' σ' H') ∧
      ∀ x H', (Itt K a).yld i H x H' → Turn g ts D N x σ H')
theorem r_forT (k : tl σ H fun x H1 => ForT K g ts D σ x H1) : tFor (iTup K tl) g ts D σ H := k
theorem forT (h : SqT K H a xs) (Pv : Nat → L2.St → Hp → Prop) (h0 : Pv 0 σ H) (hl : ∀ i σ H, i ≤ xs.length → Pv i σ H → SqT K H a xs)
    (hs : ∀ i x σ H, xs[i]? = some x → Pv i σ H → Turn g ts D (Pv (i + 1)) x σ H) (hd : ∀ σ H, Pv xs.length σ H → D.nx σ H) : ForT K g ts D σ (.ref a) H :=
  ⟨a, rfl, ⟨xs, h⟩, for_tup Pv h0 hl hs hd⟩
def ForR (g : TG) (ts : TS) (D : Ends) (σ : L2.St) (vs : List V) (H : Hp) : Prop :=
  ∃ j : Int, vs = [.int j] ∧ -(2 ^ 62) ≤ j ∧ j < 2 ^ 62 ∧ ∃ W : Nat → Nat → L2.St → Hp → Prop, (∃ m, W 0 m σ H) ∧ ∀ i m σ H, W i m σ H →
    ((Itr 0 j.toNat).stop i H ∧ D.nx σ H) ∨ ((Itr 0 j.toNat).go i H ∧ ∃ N : L2.St → Hp → Prop, (∀ σ' H', N σ' H' → ∃ m', m' < m ∧ W (i + 1) m' σ' H') ∧
      ∀ x H', (Itr 0 j.toNat).yld i H x H' → Turn g ts D N x σ H')
theorem r_forR {ta : TA} (k : ta σ H fun vs H1 => ForR g ts D σ vs H1) : tFor (iRng1 ta) g ts D σ H := k
theorem forR (b : -(2 ^ 62) ≤ j ∧ j < 2 ^ 62) (Pv : Nat → L2.St → Hp → Prop) (h0 : Pv 0 σ H)
    (hs : ∀ (i : Nat) σ H, (i : Int) < j → Pv i σ H → Turn g ts D (Pv (i + 1)) (.int i) σ H) (hd : ∀ σ H, Pv j.toNat σ H → D.nx σ H) : ForR g ts D σ [.int j] H :=
  ⟨j, rfl, b.1, b.2, for_range Pv h0 (fun i σ H hi p => by
    rw [Int.zero_add]
    exact hs i σ H (by omega) p) hd⟩
def ForR2 (g : TG) (ts : TS) (D : Ends) (σ : L2.St) (vs : List V) (H : Hp) : Prop :=
  ∃ i j : Int, vs = [.int i, .int j] ∧ (-(2 ^ 62) ≤ i ∧ i < 2 ^ 62 ∧ -(2 ^ 62) ≤ j ∧ j < 2 ^ 62) ∧ ∃ W : Nat → Nat → L2.St → Hp → Prop, (∃ m, W 0 m σ H) ∧ ∀ k m σ H, W k m σ H →
    ((Itr i (j - i).toNat).stop k H ∧ D.nx σ H) ∨ ((Itr i (j - i).toNat).go k H ∧ ∃ N : L2.St → Hp → Prop, (∀ σ' H', N σ' H' → ∃ m', m' < m ∧ W (k + 1) m' σ' H') ∧
      ∀ x H', (Itr i (j - i).toNat).yld k H x H' → Turn g ts D N x σ H')
theorem r_forR2 {ta : TA} (k : ta σ H fun vs H1 => ForR2 g ts D σ vs H1) : tFor (iRng2 ta) g ts D σ H := k
theorem forR2 (b : -(2 ^ 62) ≤ i ∧ i < 2 ^ 62 ∧ -(2 ^ 62) ≤ j ∧ j < 2 ^ 62) (Pv : Nat → L2.St → Hp → Prop) (h0 : Pv 0 σ H)
    (hs : ∀ (k : Nat) σ H, i + k < j → Pv k σ H → Turn g ts D (Pv (k + 1)) (.int (i + k)) σ H) (hd : ∀ σ H, Pv (j - i).toNat σ H → D.nx σ H) : ForR2 g ts D σ [.int i, .int j] H :=
  ⟨i, j, rfl, b, for_range Pv h0 (fun k σ H hk p => hs k σ H (by omega) p) hd⟩
/-- enumerate -/
def ForE (K : PySem.W.Frag) (g : TG) (ts : TS) (D : Ends) (σ : L2.St) (vs : List V) (H : Hp) : Prop :=
  ∃ a xs, vs = [.ref a] ∧ SqL K H a xs ∧ ∃ W : Nat → Nat → L2.St → Hp → Prop, (∃ m, W 0 m σ H) ∧ ∀ i m σ H, W i m σ H →
    ((Ite K a).stop i H ∧ D.nx σ H) ∨ ((Ite K a).go i H ∧ ∃ N : L2.St → Hp → Prop, (∀ σ' H', N σ' H' → ∃ m', m' < m ∧ W (i + 1) m' σ' H') ∧
      ∀ x H', (Ite K a).yld i H x H' → Turn g ts D N x σ H')
theorem r_forE {ta : TA} (k : ta σ H fun vs H1 => ForE K g ts D σ vs H1) : tFor (iEnum K ta) g ts D σ H := k
theorem forE (h : SqL K H a xs) (Pv : Nat → L2.St → Hp → Prop) (h0 : Pv 0 σ H) (hl : ∀ i σ H, i ≤ xs.length → Pv i σ H → SqL K H a xs)
    (hs : ∀ i x σ H, xs[i]? = some x → Pv i σ H → ∀ T H', H T = none → Same H H' → H' T = some (.tup [.int (i : Nat), x]) → Turn g ts D (Pv (i + 1)) (.ref T) σ H')
    (hd : ∀ σ H, Pv xs.length σ H → D.nx σ H) : ForE K g ts D σ [.ref a] H := by
  refine ⟨a, xs, rfl, h, fun i m σ H => m = xs.length - i ∧ i ≤ xs.length ∧ Pv i σ H, ⟨_, rfl, Nat.zero_le _, h0⟩, ?_⟩
  rintro i m σ H ⟨rfl, hi, p⟩
  have q := hl i σ H hi p
  by_cases hlt : i < xs.length
  · refine .inr ⟨⟨xs, xs[i], q, by simp [hlt]⟩, Pv (i + 1), fun σ' H' p' => ⟨xs.length - (i + 1), by omega, rfl, hlt, p'⟩, fun x H' y => ?_⟩
    obtain ⟨T, z, rfl, hT, rfl, e⟩ := y
    exact hs i z σ H (e xs q) p T _ hT (But.new (S := []) hT).same upd_same
  · have e : i = xs.length := by omega
    subst e
    exact .inl ⟨⟨xs, q, Nat.le_refl _⟩, hd σ H p⟩
/-! ### comprehensions -/
/-- one turn of a comprehension: l the new list -/
abbrev LTurn (g : TG) (tt : TT) (te : TE) (vs : List Nat) (l : Addr) (N : Hp → Prop) (x : V) (σ : L2.St) (H : Hp) : Prop :=
  g x (wipe σ vs) H fun σ2 H2 => wipe σ2 vs = wipe σ vs ∧ tt σ2 H2 fun b H3 =>
    if b = true then te σ2 H3 fun y H4 => ∃ acc, H4 l = some (.lst acc) ∧ acc.length < sizeLine ∧ N (upd H4 l (.lst (acc ++ [y]))) else N H3
abbrev LcG (J : It) (g : TG) (tt : TT) (te : TE) (vs : List Nat) (σ : L2.St) (Q : VK) (H : Hp) : Prop :=
  ∀ l, H l = none → ∃ W : Nat → Nat → Hp → Prop, (∃ m, W 0 m (upd H l (.lst []))) ∧ ∀ i m H, W i m H →
    (J.stop i H ∧ Q (.ref l) H) ∨ (J.go i H ∧ ∃ N : Hp → Prop, (∀ H', N H' → ∃ m', m' < m ∧ W (i + 1) m' H') ∧ ∀ x H', J.yld i H x H' → LTurn g tt te vs l N x σ H')
def LcL (K : PySem.W.Frag) (g : TG) (tt : TT) (te : TE) (vs : List Nat) (σ : L2.St) (Q : VK) (x : V) (H : Hp) : Prop :=
  ∃ a, x = .ref a ∧ (∃ xs, SqL K H a xs) ∧ LcG (Itl K a) g tt te vs σ Q H
theorem r_lcL {tt : TT} {vs : List Nat} (k : tl σ H fun x H1 => LcL K g tt te vs σ Q x H1) : tLc (iList K tl) g tt te vs σ H Q := k
theorem lcL {tt : TT} {vs : List Nat} (h : SqL K H a xs) (mk : ∀ l H0, H l = none → Same H H0 → H0 l = some (.lst []) → ∃ Pv : Nat → Hp → Prop, Pv 0 H0 ∧ (∀ i H, i ≤ xs.length → Pv i H → SqL K H a xs) ∧
      (∀ i x H, xs[i]? = some x → Pv i H → LTurn g tt te vs l (Pv (i + 1)) x σ H) ∧ ∀ H, Pv xs.length H → Q (.ref l) H) : LcL K g tt te vs σ Q (.ref a) H := by
  refine ⟨a, rfl, ⟨xs, h⟩, fun l hl => ?_⟩
  obtain ⟨Pv, h0, h1, h2, h3⟩ := mk l _ hl (But.new (S := []) hl).same upd_same
  exact lc_list Pv h0 h1 h2 h3
def LcT (K : PySem.W.Frag) (g : TG) (tt : TT) (te : TE) (vs : List Nat) (σ : L2.St) (Q : VK) (x : V) (H : Hp) : Prop :=
  ∃ a, x = .ref a ∧ (∃ xs, SqT K H a xs) ∧ LcG (Itt K a) g tt te vs σ Q H
theorem r_lcT {tt : TT} {vs : List Nat} (k : tl σ H fun x H1 => LcT K g tt te vs σ Q x H1) : tLc (iTup K tl) g tt te vs σ H Q := k
theorem lcT {tt : TT} {vs : List Nat} (h : SqT K H a xs) (mk : ∀ l H0, H l = none → Same H H0 → H0 l = some (.lst []) → ∃ Pv : Nat → Hp → Prop, Pv 0 H0 ∧ (∀ i H, i ≤ xs.length → Pv i H → SqT K H a xs) ∧
      (∀ i x H, xs[i]? = some x → Pv i H → LTurn g tt te vs l (Pv (i + 1)) x σ H) ∧ ∀ H, Pv xs.length H → Q (.ref l) H) : LcT K g tt te vs σ Q (.ref a) H := by
  refine ⟨a, rfl, ⟨xs, h⟩, fun l hl => ?_⟩
  obtain ⟨Pv, h0, h1, h2, h3⟩ := mk l _ hl (But.new (S := []) hl).same upd_same
  exact lc_tup Pv h0 h1 h2 h3
/-- what an element's evaluation leaves: the list one item longer -/
theorem lc_put {N : Hp → Prop} (h : H l = some (.lst xs)) (c : xs.length < sizeLine) (k : ∀ H', But [l] H H' → H' l = some (.lst (xs ++ [y])) → N H') :
    ∃ acc, H l = some (.lst acc) ∧ acc.length < sizeLine ∧ N (upd H l (.lst (acc ++ [y]))) :=
  ⟨xs, h, c, k _ (But.write h (fun z => z) (by simp)) upd_same⟩
theorem r_and2 {A B : Prop} (h : A) (k : B) : A ∧ B := ⟨h, k⟩
/-! ### methods of lists -/
theorem r_bm {T : String} {r : V → List V → Hp → VK → Prop} {to : TE} {ta : TA} (k : to σ H fun x H1 => tyV K T x H1 ∧ ta σ H1 fun xs H2 => r x xs H2 Q) : tBM K T r to ta σ H Q := k
theorem r_bm0 {T : String} {r : V → List V → Hp → VK → Prop} {to : TE} (k : to σ H fun x H1 => tyV K T x H1 ∧ r x [] H1 Q) : tBM0 K T r to σ H Q := k
theorem r_tyL {B : Prop} (h : SqL K H p xs) (k : B) : tyV K "list" (.ref p) H ∧ B := ⟨.inl ⟨rfl, xs, h⟩, k⟩
theorem r_app (h : H l = some (.lst xs)) (c : xs.length < sizeLine) (k : ∀ H', But [l] H H' → H' l = some (.lst (xs ++ [v])) → Q .non H') : rAppend (.ref l) [v] H Q :=
  ⟨l, xs, v, rfl, rfl, h, c, k _ (But.write h (fun z => z) (by simp)) upd_same⟩
theorem r_ext (h : H l = some (.lst xs)) (h' : H p = some (.lst ys)) (c : xs.length + ys.length ≤ sizeLine) (k : ∀ H', But [l] H H' → H' l = some (.lst (xs ++ ys)) → Q (.ref l) H') : rIadd (.ref l) (.ref p) H Q :=
  .inr (.inr ⟨l, p, xs, ys, rfl, rfl, h, h', c, k _ (But.write h (fun z => z) (by simp)) upd_same⟩)
/-! ### built-ins -/
theorem r_lenL (h : SqL K H p xs) (k : Q (.int xs.length) H) : rLenA K [.ref p] H Q := ⟨_, _, rfl, .inl ⟨xs, h, rfl⟩, k⟩
theorem r_lenT (h : SqT K H p xs) (k : Q (.int xs.length) H) : rLenA K [.ref p] H Q := ⟨_, _, rfl, .inr ⟨xs, h, rfl⟩, k⟩
theorem r_lenS {z : Str} (c : z.length ≤ sizeLine) (k : Q (.int z.length) H) : rLenA K [.str z] H Q := ⟨_, _, rfl, ⟨c, rfl⟩, k⟩
theorem r_intI (k : Q (.int i) H) : (∃ j, [V.int i] = [.int j] ∧ Q (.int j) H) ∨ ∃ b, [V.int i] = [.bl b] ∧ Q (.int (if b then 1 else 0)) H := .inl ⟨i, rfl, k⟩
theorem r_slL {lo hi : Option Int} (h : SqL K H p xs) (k : ∀ l H', H l = none → Same H H' → H' l = some (.lst (cutV xs lo hi)) → Q (.ref l) H') : rSlAny K (.ref p) lo hi H Q :=
  .inl ⟨p, xs, rfl, h, fun l hl => k l _ hl (But.new (S := []) hl).same upd_same⟩
theorem r_tupleL (h : SqL K H p xs) (k : ∀ l H', H l = none → Same H H' → H' l = some (.tup xs) → Q (.ref l) H') : rTupA K [.ref p] H Q :=
  ⟨p, xs, rfl, .inl ⟨h, fun l hl => k l _ hl (But.new (S := []) hl).same upd_same⟩⟩
theorem r_listL (h : SqL K H p xs) (k : ∀ l H', H l = none → Same H H' → H' l = some (.lst xs) → Q (.ref l) H') : rListA K [.ref p] H Q :=
  ⟨p, xs, rfl, .inl h, fun l hl => k l _ hl (But.new (S := []) hl).same upd_same⟩
theorem r_repr {d : PyData} (h : Dp K H x d) (s : d.showable = true) (e : d.depth ≤ 60) (c : d.shown.length ≤ sizeLine) (k : Q (.str d.shown) H) : rRepr K [x] H Q := ⟨x, d, rfl, h, s, e, c, k⟩
end
end J

set_option Elab.async false
set_option linter.all false
set_option maxRecDepth 100000
set_option maxHeartbeats 4000000
namespace J
open PySem L2 PyProof.Rows
theorem listText_le (ts : List Str) : (listText ts).length ≤ piled ts + 2 := by
  have e1 : (listText ts).length = (textFrom 0 "[" ts).length + 1 := by
    show (textFrom 0 "[" ts ++ "]").length = _
    rw [strLen_append]
    rfl
  cases ts with
  | nil => rw [e1]; decide
  | cons t r =>
    have h := textFrom_length_pos r 1 (("[" : Str) ++ (if (0 : Nat) > 0 then ", " else "" : String) ++ t) (Nat.succ_pos 0)
    have e2 : ((("[" : Str) ++ (if (0 : Nat) > 0 then ", " else "" : String) ++ t)).length = 1 + t.length := by
      rw [strLen_append, strLen_append]; rfl
    have e3 : textFrom 0 "[" (t :: r) = textFrom 1 (("[" : Str) ++ (if (0 : Nat) > 0 then ", " else "" : String) ++ t) r := rfl
    rw [e1, e3, h, e2, piled_cons]
    omega
theorem tupleText_le (ts : List Str) : (tupleText ts).length ≤ piled ts + 3 := by
  have e3 : (((if ts.length == 1 then ",)" else ")" : String) : Str)).length ≤ 2 := by split <;> decide +kernel
  have e1 : ((("(" : String) : Str)).length = 1 := rfl
  unfold tupleText
  rw [strLen_append, strLen_append, e1]
  by_cases h : ts = []
  · subst h
    decide +kernel
  · have := join_length_add ts h
    omega
/-- bounds of data: for repr, for ==: its text at most n signs, at most k deep -/
structure Ok (n k : Nat) (d : PyData) : Prop where
  lay : d.canLay0 = true
  show_ : d.showable = true
  dep : d.depth ≤ k
  len : d.shown.length ≤ n
structure OkAll (n k : Nat) (ds : List PyData) : Prop where
  all : ∀ d ∈ ds, Ok n k d
theorem Ok.mono {n k n' k' : Nat} {d : PyData} (h : Ok n k d) (hn : n ≤ n') (hk : k ≤ k') : Ok n' k' d :=
  ⟨h.lay, h.show_, Nat.le_trans h.dep hk, Nat.le_trans h.len hn⟩
theorem Ok.shaped {n k : Nat} {d : PyData} (h : Ok n k d) (hk : k ≤ 60) : SeqAt.shaped d = true := by
  have := h.dep
  unfold SeqAt.shaped
  rw [h.lay, decide_eq_true (by omega)]
  rfl
theorem Ok.eqv {n k : Nat} {d : PyData} (h : Ok n k d) : PyData.eqv d d = true := SeqAt.eqv_refl d h.lay
theorem okNone : Ok 4 0 .none := ⟨rfl, rfl, Nat.le_refl _, by decide +kernel⟩
theorem okBool (b : Bool) : Ok 5 0 (.bool b) := ⟨rfl, rfl, Nat.le_refl _, by cases b <;> decide +kernel⟩
theorem okInt {i : Int} {m : Nat} (h : i.natAbs < 2 ^ m) (hm : m ≤ 1900) : Ok (m + 2) 0 (.int i) := by
  by_cases h0 : i.natAbs = 0
  · have e : i = 0 := by omega
    subst e
    refine ⟨rfl, by decide, Nat.le_refl _, ?_⟩
    have : ((PyData.int 0).shown).length = 1 := by decide +kernel
    omega
  · have h1 : i.natAbs.log2 < m := (Nat.log2_lt h0).mpr h
    refine ⟨rfl, ?_, Nat.le_refl _, ?_⟩
    · show decide (i.natAbs.log2 < 1920) = true
      exact decide_eq_true (by omega)
    · have h2 := int_text_length_le (a := i) (k := m) (by omega) h1
      have e : ((PyData.int i).shown).length = (toString i).length := by
        simp only [PyData.shown]
        exact PySem.ofString_length _
      omega
theorem okStr {x : Str} {n : Nat} (h : PyData.strOk x = true) (hl : (reprText x).length ≤ n) : Ok n 0 (.str x) := ⟨h, rfl, Nat.le_refl _, hl⟩
theorem all_lay {n k : Nat} : ∀ {ds : List PyData}, OkAll n k ds → PyData.canLayAll0 ds = true
  | [], _ => rfl
  | d :: ds, h => by
    show (d.canLay0 && PyData.canLayAll0 ds) = true
    rw [(h.all d List.mem_cons_self).lay, all_lay ⟨fun e he => h.all e (List.mem_cons_of_mem _ he)⟩]
    rfl
theorem all_show {n k : Nat} : ∀ {ds : List PyData}, OkAll n k ds → PyData.showableAll ds = true
  | [], _ => rfl
  | d :: ds, h => by
    show (d.showable && PyData.showableAll ds) = true
    rw [(h.all d List.mem_cons_self).show_, all_show ⟨fun e he => h.all e (List.mem_cons_of_mem _ he)⟩]
    rfl
theorem all_dep {n k : Nat} : ∀ {ds : List PyData}, OkAll n k ds → PyData.depthAll ds ≤ k
  | [], _ => Nat.zero_le _
  | d :: ds, h => Nat.max_le.mpr ⟨(h.all d List.mem_cons_self).dep, all_dep ⟨fun e he => h.all e (List.mem_cons_of_mem _ he)⟩⟩
theorem all_len {n k : Nat} : ∀ {ds : List PyData}, OkAll n k ds → piled (PyData.shownAll ds) ≤ ds.length * (n + 2)
  | [], _ => Nat.zero_le _
  | d :: ds, h => by
    have h1 := (h.all d List.mem_cons_self).len
    have h2 := all_len (n := n) (k := k) (ds := ds) ⟨fun e he => h.all e (List.mem_cons_of_mem _ he)⟩
    show piled (d.shown :: PyData.shownAll ds) ≤ _
    rw [piled_cons, List.length_cons, Nat.add_mul]
    omega
theorem okList {n k m : Nat} {ds : List PyData} (h : OkAll n k ds) (hm : ds.length ≤ m) : Ok (m * (n + 2) + 2) (k + 1) (.list ds) := by
  refine ⟨all_lay h, all_show h, Nat.succ_le_succ (all_dep h), ?_⟩
  have h1 := listText_le (PyData.shownAll ds)
  have h2 := all_len h
  have h3 : ds.length * (n + 2) ≤ m * (n + 2) := Nat.mul_le_mul_right _ hm
  simp only [PyData.shown]
  omega
theorem okTup {n k m : Nat} {ds : List PyData} (h : OkAll n k ds) (hm : ds.length ≤ m) : Ok (m * (n + 2) + 3) (k + 1) (.tuple ds) := by
  refine ⟨all_lay h, all_show h, Nat.succ_le_succ (all_dep h), ?_⟩
  have h1 := tupleText_le (PyData.shownAll ds)
  have h2 := all_len h
  have h3 : ds.length * (n + 2) ≤ m * (n + 2) := Nat.mul_le_mul_right _ hm
  simp only [PyData.shown]
  omega
theorem OkAll.nil {n k : Nat} : OkAll n k [] := ⟨fun _ h => nomatch h⟩
theorem OkAll.cons {n k : Nat} {d : PyData} {ds : List PyData} (h : Ok n k d) (t : OkAll n k ds) : OkAll n k (d :: ds) :=
  ⟨fun e he => (List.mem_cons.mp he).elim (fun q => q ▸ h) (t.all e)⟩
theorem OkAll.append {n k : Nat} {ds es : List PyData} (h : OkAll n k ds) (t : OkAll n k es) : OkAll n k (ds ++ es) :=
  ⟨fun e he => (List.mem_append.mp he).elim (h.all e) (t.all e)⟩
theorem OkAll.map {α : Type} {n k : Nat} {f : α → PyData} {xs : List α} (h : ∀ x ∈ xs, Ok n k (f x)) : OkAll n k (xs.map f) :=
  ⟨fun e he => by obtain ⟨x, hx, rfl⟩ := List.mem_map.mp he; exact h x hx⟩
section
variable {K : PySem.W.Frag} {S : List Addr} {H : Hp} {v : V} {ds : List PyData} {vs : List V} {d : PyData}
theorem Dn.tup_inv (h : Dn K S H v (.tuple ds)) : ∃ a xs, v = .ref a ∧ SqT K H a xs ∧ DnAll K S H xs ds := by
  cases h with
  | tup h1 h2 => exact ⟨_, _, rfl, h1, h2⟩
theorem Dn.lst_inv (h : Dn K S H v (.list ds)) : ∃ a xs, v = .ref a ∧ H a = some (.lst xs) ∧ a ∉ S ∧ DnAll K S H xs ds := by
  cases h with
  | lst h1 h2 h3 => exact ⟨_, _, rfl, h1, h2, h3⟩
theorem Dn.int_inv {i : Int} (h : Dn K S H v (.int i)) : v = .int i := by
  cases h; rfl
theorem Dn.str_inv {x : Str} (h : Dn K S H v (.str x)) : v = .str x := by
  cases h; rfl
theorem DnAll.nil_inv (h : DnAll K S H vs []) : vs = [] := by
  cases h; rfl
theorem DnAll.cons_inv (h : DnAll K S H vs (d :: ds)) : ∃ w ws, vs = w :: ws ∧ Dn K S H w d ∧ DnAll K S H ws ds := by
  cases h with
  | cons h1 h2 => exact ⟨_, _, rfl, h1, h2⟩
end
section
variable {K : PySem.W.Frag} {S T : List Addr} {H H' : Hp} {v : V} {ds : List PyData} {vs : List V} {d : PyData}
theorem dn_same (b : Same H H') (h : Dn K S H v d) : Dn K S H' v d := h.same b
theorem dn_but (b : But T H H') (h : Dn K S H v d) (hs : ∀ s ∈ T, s ∈ S) : Dn K S H' v d := h.but b hs
theorem da_same (b : Same H H') (h : DnAll K S H vs ds) : DnAll K S H' vs ds := h.same b
theorem da_but (b : But T H H') (h : DnAll K S H vs ds) (hs : ∀ s ∈ T, s ∈ S) : DnAll K S H' vs ds := h.but b hs
end
/-! ### data without lists -/
mutual
def noL : PyData → Bool
  | .list _ => false
  | .tuple xs => noLs xs
  | .dict _ => false
  | _ => true
def noLs : List PyData → Bool
  | [] => true
  | x :: xs => noL x && noLs xs
end
theorem Dn.any {K : PySem.W.Frag} {S T : List Addr} {H : Hp} {v : V} {d : PyData} (h : Dn K S H v d) (n : noL d = true) : Dn K T H v d := by
  refine Dn.rec (motive_1 := fun v d _ => noL d = true → Dn K T H v d) (motive_2 := fun vs ds _ => noLs ds = true → DnAll K T H vs ds) ?_ ?_ ?_ ?_ ?_ ?_ ?_ ?_ h n
  · exact fun _ => .non
  · exact fun b _ => .bl b
  · exact fun i _ => .int i
  · exact fun x _ => .str x
  · intro a xs ds _ _ _ _ q
    simp [noL] at q
  · intro a xs ds h1 _ ih q
    exact .tup h1 (ih (by simpa [noL] using q))
  · exact fun _ => .nil
  · intro v vs d ds _ _ h1 h2 q
    have q' : noL d = true ∧ noLs ds = true := by simpa [noLs] using q
    exact .cons (h1 q'.1) (h2 q'.2)
theorem DnAll.any {K : PySem.W.Frag} {S T : List Addr} {H : Hp} {vs : List V} {ds : List PyData} (h : DnAll K S H vs ds) (n : noLs ds = true) : DnAll K T H vs ds := by
  induction ds generalizing vs with
  | nil =>
    cases h
    exact .nil
  | cons d ds ih =>
    cases h with
    | cons h1 h2 =>
      have n' : noL d = true ∧ noLs ds = true := by simpa [noLs] using n
      exact .cons (h1.any n'.1) (ih h2 n'.2)
end J

set_option Elab.async false
set_option linter.all false
set_option maxRecDepth 100000
set_option maxHeartbeats 4000000
namespace J
open PySem PySem.Spec L2 L2.DX PyProof.Rows
/-! ### pairs of ints, sorted -/
def pairD (q : Int × Int) : PyData := .tuple [.int q.1, .int q.2]
/-- not after -/
abbrev Lex (x y : Int × Int) : Prop := SrtO.lexB y x = false
def PairAt (H : Hp) (x : V) (q : Int × Int) : Prop := ∃ t, x = .ref t ∧ H t = some (.tup [.int q.1, .int q.2])
def pairK (H : Hp) : V → Int × Int
  | .ref t => match H t with
    | some (.tup [.int i, .int j]) => (i, j)
    | _ => (0, 0)
  | _ => (0, 0)
theorem pairK_of {H : Hp} {x : V} {q : Int × Int} (h : PairAt H x q) : pairK H x = q := by
  obtain ⟨t, rfl, e⟩ := h
  show (match H t with | some (.tup [.int i, .int j]) => (i, j) | _ => ((0, 0) : Int × Int)) = q
  rw [e]
theorem pairK_map {H : Hp} : ∀ {xs : List V} {qs : List (Int × Int)}, Paired (PairAt H) xs qs → xs.map (pairK H) = qs
  | _, _, .nil => rfl
  | _, _, .cons h t => by rw [List.map_cons, pairK_of h, pairK_map t]
theorem pair_mem {H : Hp} : ∀ {xs : List V} {qs : List (Int × Int)}, Paired (PairAt H) xs qs → ∀ x ∈ xs, PairAt H x (pairK H x)
  | _, _, .cons h t, x, hx => by
    rcases List.mem_cons.mp hx with e | hx
    · subst e
      rw [pairK_of h]; exact h
    · exact pair_mem t x hx
theorem pairs_dn {K : PySem.W.Frag} {H H' : Hp} (s : Same H H') : ∀ {ys : List V}, (∀ y ∈ ys, PairAt H y (pairK H y)) → DnAll K [] H' ys ((ys.map (pairK H)).map pairD)
  | [], _ => .nil
  | y :: ys, h => by
    obtain ⟨t, e, ht⟩ := h y List.mem_cons_self
    refine .cons ?_ (pairs_dn s fun z hz => h z (List.mem_cons_of_mem _ hz))
    have e2 : Dn K [] H' (.ref t) (pairD (pairK H y)) := .tup (SqT.of (s _ _ ht)) (.cons (.int _) (.one (.int _)))
    rw [← e] at e2
    exact e2
/-- what sorted gives -/
def SortedTo (K : PySem.W.Frag) (Q : VK) (kvs : List (Int × Int)) (H : Hp) : Prop :=
  ∀ (l : Addr) (zs : List (Int × Int)) (ys : List V) (H' : Hp), H l = none → Same H H' → H' l = some (.lst ys) → DnAll K [] H' ys (zs.map pairD) → zs.Perm kvs → zs.Pairwise Lex → Q (.ref l) H'
theorem sorted_to {K : PySem.W.Frag} {Q : VK} {kvs : List (Int × Int)} {H H1 H2 : Hp} {xs ys : List V} {l : Addr} (k : SortedTo K Q kvs H) (s1 : Same H H1) (hx : Paired (PairAt H1) xs kvs)
    (h1 : SrtO.Srtd (ltP (pairK H1)) ys) (h2 : SrtO.Stb (ltP (pairK H1)) ys xs) (hl : H l = none) (s2 : Same H1 H2) (hl2 : H2 l = some (.lst ys)) : Q (.ref l) H2 := by
  refine k l (ys.map (pairK H1)) ys H2 hl (fun b o e => s2 b o (s1 b o e)) hl2 (pairs_dn s2 fun y hy => ?_) ?_ ?_
  · exact pair_mem hx y (h2.perm.mem_iff.mp hy)
  · rw [← pairK_map hx]
    exact h2.perm.map _
  · exact List.pairwise_map.mpr h1
section
variable {K : PySem.W.Frag} {H : Hp} {Q : VK} {p : Addr} {xs : List V} {kvs : List (Int × Int)}
theorem r_sortedP (h : SqL K H p xs) (hx : Paired (PairAt H) xs kvs) (k : SortedTo K Q kvs H) : rSortedPO K [.ref p] H Q :=
  ⟨p, xs, pairK H, rfl, h, pair_mem hx, fun ys l h1 h2 hl => sorted_to k (fun _ _ e => e) hx h1 h2 hl (But.new (S := []) hl).same upd_same⟩
end
/-! ### d.items(), d with int keys and int values -/
def intKV (kvs : List (Int × Int)) : List (L2.Key × V) := kvs.map fun q => (.inl q.1, .int q.2)
def rItemsK : V → List V → Hp → VK → Prop := fun x xs H Q => ∃ (a : Addr) (kvs : List (L2.Key × V)), x = .ref a ∧ xs = [] ∧ H a = some (.dK kvs) ∧ ∀ p, H p = none → Q (.ref p) (upd H p (itemsO p a))
section
variable {X : Cx}
theorem mt_itemsK : MtR X "dict.items" rItemsK := by
  intro pins s σ H x xs v us Q I rx rxs h
  obtain ⟨a, kvs, rfl, rfl, ha, q⟩ := h
  cases rx
  cases rxs
  obtain ⟨hz, hs0, vs, kv, hdo⟩ := I.hok a _ ha
  have hf : H s.heap.objs.size = none := I.hok.fresh (Nat.le_refl _)
  have e : EP X pins σ Q (.ref s.heap.objs.size) { s with heap := s.heap.push { cls := .type "dict_items", data := .fields #[.ref a] } } :=
    ⟨.ref s.heap.objs.size, upd H s.heap.objs.size (itemsO s.heap.objs.size a), I.laid (t' := s.toks) (fun b u e => Heap.get?_push_of_some _ e) (Nat.le_refl _) (itemsO_ok (Heap.get?_push_size _ rfl)), rfl, q _ hf⟩
  exact call_meetsIn F.slot_dict_items hdo.typeIs F.entry_dict_items (F.args_dict_items_1 _) (meets_dict_items (mixKind X.prog X.w) a hs0) ⟨⟨vs, hdo⟩, e⟩
/-- the invariant elsewhere -/
theorem inv_around {pins : List (Addr × Obj)} {σ : L2.St} {H : Hp} {s : Shared} (I : Inv X pins σ H s) (A' : Around) (h1 : A'.handled = X.A.handled) (h2 : A'.frames = X.A.frames) :
    Inv { X with A := A' } pins σ H s :=
  ⟨⟨I.ok.mod, I.ok.kind, I.ok.glob, I.ok.blt, I.ok.above, I.ok.inj, I.ok.has, I.ok.cab, fun c => h1.trans (I.ok.hd c), h2.trans I.ok.frames, I.ok.stk, I.ok.exf, I.ok.bs, I.ok.bsz, I.ok.noex, I.ok.exfs, I.ok.funs, I.ok.frf⟩,
   I.os, I.bare, I.base, I.loc, I.cell, I.free, I.freeC, I.pin, I.hok, I.len⟩
theorem inv_back {A' : Around} {pins : List (Addr × Obj)} {σ : L2.St} {H : Hp} {s : Shared} (I : Inv { X with A := A' } pins σ H s) (h1 : A'.handled = X.A.handled) (h2 : A'.frames = X.A.frames) :
    Inv X pins σ H s := inv_around (X := { X with A := A' }) I X.A h1.symm h2.symm
/-- the tuples and the list of them, tracked -/
theorem items_laid2 {pins : List (Addr × Obj)} {σ : L2.St} {H : Hp} {s : Shared} {h' : Heap} {tk S : Nat} {kvs : List (L2.Key × V)} {vs : List (L2.Key × Value)} {as : List Addr} (I : Inv X pins σ H s) (hz : kvs.length ≤ sizeLine) (kv : KV kvs vs)
    (hk : ∀ b o, s.heap.get? b = some o → h'.get? b = some o) (hS : h'.get? S = some { cls := .type "list", data := .seq (as.map Value.ref).toArray }) (hSl : s.heap.objs.size ≤ S) (hSn : S ∉ as) (hl : as.length = vs.length) (hG : PySem.W.KdxG (mixKind X.prog X.w) vs s.heap.objs.size h' as) :
    ∃ H' : Hp, Same H H' ∧ H S = none ∧ H' S = some (.lst (as.map V.ref)) ∧ Paired (fun (t : Addr) (q : L2.Key × V) => H' t = some (.tup [kV q.1, q.2])) as kvs ∧ Inv X pins σ H' { s with heap := h', toks := tk } := by
  have lk : kvs.length = vs.length := Paired.length kv
  have nd : as.Nodup := List.Pairwise.imp (fun {a b} (h : a < b) => Nat.ne_of_lt h) hG.rise
  have new : ∀ t ∈ as, H t = none := fun t ht => I.hok.fresh (Nat.le_of_lt (hG.above t ht))
  have newS : H S = none := I.hok.fresh hSl
  have atP := LiI.putT_at as kvs (upd H S (.lst (as.map V.ref))) (by omega) nd
  have off : ∀ b, b ∉ as → b ≠ S → LiI.putT (upd H S (.lst (as.map V.ref))) as kvs b = H b := fun b h1 h2 => by rw [LiI.putT_off as kvs _ h1, upd_ne h2]
  have low : ∀ b o, s.heap.get? b = some o → b ∉ as ∧ b ≠ S := fun b o e => ⟨fun z => absurd (Heap.lt_size e) (Nat.not_lt.mpr (Nat.le_of_lt (hG.above b z))), Nat.ne_of_lt (Nat.lt_of_lt_of_le (Heap.lt_size e) hSl)⟩
  have kp : ∀ b u, H b = some u → (LiI.putT (upd H S (.lst (as.map V.ref))) as kvs) b = some u := fun b u e => by
    rw [off b (fun z => by rw [new b z] at e; cases e) (fun z => by rw [z, newS] at e; cases e)]
    exact e
  have eS : LiI.putT (upd H S (.lst (as.map V.ref))) as kvs S = some (.lst (as.map V.ref)) := by rw [LiI.putT_off as kvs _ hSn, upd_same]
  refine ⟨LiI.putT (upd H S (.lst (as.map V.ref))) as kvs, kp, newS, eS, atP, ?_⟩
  refine I.call' (ch := []) rfl ⟨fun b o q _ _ _ => hk b o q, fun b o q _ _ _ => ⟨o.slots, hk b o q⟩, fun b o q n _ => ?_, fun b o q _ => ⟨o, hk b o q⟩, fun b xs q => kp b _ q, fun b o u q => kp b _ q, fun b ps q => ⟨#[], by rw [kp b _ q]; simp⟩⟩ (fun b u q => ?_) I.bare fun b z => by simp at z
  · obtain ⟨z1, z2⟩ := low b o q
    rw [off b z1 z2]
    exact n
  · by_cases hb : b ∈ as
    · obtain ⟨j, pk, e1, e2, e3⟩ := LiI.paired_ix atP hb
      rw [e3] at q
      cases q
      obtain ⟨key, k, x, f1, f2, f3⟩ := hG.pairs j b e1
      obtain ⟨qv, g1, g2, g3⟩ := LiI.paired_get kv e2
      rw [f1] at g1
      cases g1
      have rk : RelV (kV pk.1) key := by
        rw [g2]
        exact relV_key (show keyIs k key = true from f2)
      exact ⟨by show 2 ≤ sizeLine; decide, [key, x], .cons rk (.cons g3 .nil), ⟨_, f3, rfl, _, rfl⟩⟩
    · by_cases hb2 : b = S
      · rw [hb2] at q ⊢
        rw [eS] at q
        cases q
        exact ⟨by rw [List.length_map]; omega, as.map Value.ref, 0, LiI.vals_refs as, hS⟩
      · rw [off b hb hb2] at q
        exact (I.hok b u q).stay (fun d v _ y => hk d v y) (fun d y => kp d _ y) fun d xs y => kp d _ y
theorem paired_pair {H : Hp} : ∀ {ts : List Addr} {kvs : List (Int × Int)}, Paired (fun (t : Addr) (q : L2.Key × V) => H t = some (.tup [kV q.1, q.2])) ts (intKV kvs) → Paired (PairAt H) (ts.map V.ref) kvs
  | _, [], .nil => .nil
  | _, _ :: _, .cons h t => .cons ⟨_, rfl, h⟩ (paired_pair t)
/-- sorted(d.items()) -/
def rSortIK (K : PySem.W.Frag) : List V → Hp → VK → Prop := fun vs H Q => ∃ (p a : Addr) (kvs : List (Int × Int)), vs = [.ref p] ∧ H p = some (itemsO p a) ∧ H a = some (.dK (intKV kvs)) ∧ SortedTo K Q kvs H
theorem cr_sortIK {K : PySem.W.Frag} (hc : X.calm = true) (e : X.K = K := by rfl) : CallR X (.builtin "sorted") (rSortIK K) := by
  subst e
  intro pins s σ H xs us Q I r h
  obtain ⟨p, a, kvs, rfl, hp, ha, k⟩ := h
  obtain rfl := Vals.ref1 r
  have view : s.heap.IsItemsView p a := (show ObjOk X.prog X.w H s.heap p (itemsO p a) from I.hok p _ hp).1
  obtain ⟨hz, hs0, vs, kv, hdo⟩ := I.hok a _ ha
  have lk : (intKV kvs).length = vs.length := Paired.length kv
  obtain ⟨o, es, ep, ho, hx, hdat, hko, hps, hnd⟩ := hdo
  have les : es.size = vs.length := by rw [← Array.length_toList]; exact hps.length
  have hh : X.A.handled = none := I.ok.hd hc
  refine DT.sortedI (es := es) (ep := ep) hh view ⟨o, ho, hx, hdat⟩ (by omega) fun h' tk as hk hlt hl hM => ?_
  have hG : PySem.W.KdxG (mixKind X.prog X.w) vs s.heap.objs.size h' as := by
    refine ⟨hM.rise, hM.above, fun j b hj => ?_⟩
    obtain ⟨en, he, hg⟩ := hM.pairs j b hj
    rw [← Array.getElem?_toList] at he
    have hjl : j < vs.length := by
      have := (List.getElem?_eq_some_iff.mp hj).1
      omega
    have hv : vs[j]? = some ((vs[j]).1, (vs[j]).2) := List.getElem?_eq_getElem hjl
    obtain ⟨q1, q2⟩ := hps.get? he hv
    exact ⟨en.key, (vs[j]).1, (vs[j]).2, hv, q1, by rw [hg, q2]⟩
  have hpush : ∀ b o, h'.get? b = some o → (h'.push { cls := .type "list", data := .seq (as.map Value.ref).toArray }).get? b = some o := fun b o e => Heap.get?_push_of_some _ e
  obtain ⟨H', k1, k2, k4, k5, J⟩ := items_laid2 (tk := tk) (S := h'.objs.size) I hz kv (fun b o e => hpush _ _ (hk b o e)) (Heap.get?_push_size _ rfl) (Nat.le_of_lt hlt)
    (fun z => Nat.lt_irrefl _ (hG.there z)) (by omega) ⟨hG.rise, hG.above, fun j a e => by
      obtain ⟨key, q, x, f1, f2, f3⟩ := hG.pairs j a e
      exact ⟨key, q, x, f1, f2, hpush _ _ f3⟩⟩
  have pp := paired_pair k5
  have st := mt_sortPO (X := { X with A := X.A.in1 }) pins _ σ H' (.ref h'.objs.size) [] (.ref h'.objs.size) [] (fun _ H2 => Q (.ref h'.objs.size) H2) (inv_around J _ rfl rfl) rfl .nil
    ⟨_, _, pairK H', rfl, rfl, k4, pair_mem pp, fun zs h1 h2 => ?_⟩
  · refine wpAny_mono st (fun u s' x => ?_) fun _ _ e => e
    obtain ⟨v, H2, J2, rv, q2⟩ := x
    exact ⟨.ref h'.objs.size, H2, inv_back J2 rfl rfl, rfl, q2⟩
  · refine k h'.objs.size (zs.map (pairK H')) zs _ k2 (fun b o e => ?_) upd_same ?_ ?_ (List.pairwise_map.mpr h1)
    · rw [upd_ne (ne_of_none e k2)]
      exact k1 b o e
    · have hd : ∀ y ∈ zs, PairAt (upd H' h'.objs.size (.lst zs)) y (pairK (upd H' h'.objs.size (.lst zs)) y) ∧ pairK (upd H' h'.objs.size (.lst zs)) y = pairK H' y := fun y hy => by
        obtain ⟨t, e1, e2⟩ := pair_mem pp y (h2.perm.mem_iff.mp hy)
        have nt : t ≠ h'.objs.size := fun z => by
          rw [z, k4] at e2
          cases e2
        have e3 : PairAt (upd H' h'.objs.size (.lst zs)) y (pairK H' y) := ⟨t, e1, by rw [upd_ne nt]; exact e2⟩
        have e4 := pairK_of e3
        exact ⟨by rw [e4]; exact e3, e4⟩
      have e5 : zs.map (pairK H') = zs.map (pairK (upd H' h'.objs.size (.lst zs))) := List.map_congr_left fun y hy => (hd y hy).2.symm
      rw [e5]
      exact pairs_dn (fun _ _ e => e) fun y hy => (hd y hy).1
    · rw [← pairK_map pp]
      exact h2.perm.map _
end
section
variable {K : PySem.W.Frag} {H : Hp} {Q : VK} {p : Addr} {kvs : List (L2.Key × V)} {i : Int} {v : V}
theorem r_items {σ : L2.St} {to : TE} {a : Addr} (h : H a = some (.dK kvs)) (k : ∀ p H', H p = none → Same H H' → H' p = some (itemsO p a) → Q (.ref p) H') : tyV K "dict" (.ref a) H ∧ rItemsK (.ref a) [] H Q :=
  ⟨.inr (.inr (.inl ⟨rfl, .inl ⟨_, h⟩⟩)), a, kvs, rfl, rfl, h, fun p hp => k p _ hp (But.new (S := []) hp).same upd_same⟩
/-! ### dicts with int keys -/
theorem r_dnew {σ : L2.St} (k : ∀ p H', H p = none → Same H H' → H' p = some (.dK []) → Q (.ref p) H') : tDNewK σ H Q := fun p hp => k p _ hp (But.new (S := []) hp).same upd_same
theorem r_dget2 {σ : L2.St} {td ty tx : TE} (k : td σ H fun x H1 => ∃ a, x = .ref a ∧ IsD H1 a ∧ ty σ H1 fun y H2 => tx σ H2 fun z H3 => ∃ o, DGet H3 a y o ∧ Q (o.getD z) H3) : tDGet2 td ty tx σ H Q := k
theorem r_dput {σ : L2.St} {td ty tv : TE} {D : Ends} (k : tv σ H fun v H1 => td σ H1 fun x H2 => ty σ H2 fun y H3 => ∃ a H4, x = .ref a ∧ DPut H3 a y v H4 ∧ D.nx σ H4) : sDPut td ty tv D σ H := k
theorem r_isD {a : Addr} {B : Addr → Prop} (h : H a = some (.dK kvs)) (k : B a) : ∃ b, V.ref a = .ref b ∧ IsD H b ∧ B b := ⟨a, rfl, .inl ⟨_, .inl h⟩, k⟩
end
def rMax2 : List V → Hp → VK → Prop := fun xs H Q => ∃ i j, xs = [.int i, .int j] ∧ Q (.int (if j > i then j else i)) H
theorem call_max2A {X : Cx} (hc : X.calm = true) : CallR X (.builtin "max") rMax2 := call_max2 hc
theorem r_max2 {H : Hp} {Q : VK} {i j : Int} (k : Q (.int (max i j)) H) : rMax2 [.int i, .int j] H Q := by
  refine ⟨i, j, rfl, ?_⟩
  have e : (if j > i then j else i) = max i j := by split <;> omega
  rw [e]; exact k
def rInt1 : List V → Hp → VK → Prop := fun xs H Q => (∃ j, xs = [.int j] ∧ Q (.int j) H) ∨ ∃ b, xs = [.bl b] ∧ Q (.int (if b then 1 else 0)) H
theorem r_int1 {H : Hp} {Q : VK} {i : Int} (k : Q (.int i) H) : rInt1 [.int i] H Q := .inl ⟨i, rfl, k⟩
theorem r_int1b {H : Hp} {Q : VK} {b : Bool} (k : Q (.int (if b then 1 else 0)) H) : rInt1 [.bl b] H Q := .inr ⟨b, rfl, k⟩
/-! ### int to int -/
def getI (m : List (Int × Int)) (k : Int) : Option Int := (m.find? fun q => decide (q.1 = k)).map (·.2)
def putI (m : List (Int × Int)) (k v : Int) : List (Int × Int) :=
  if (m.any fun q => decide (q.1 = k)) = true then m.map (fun q => if q.1 = k then (q.1, v) else q) else m ++ [(k, v)]
theorem valV_intKV {m : List (Int × Int)} {k : Int} : valV (intKV m) (.inl k) = (getI m k).map V.int := by
  unfold getI
  induction m with
  | nil => rfl
  | cons q m ih =>
    by_cases h : q.1 = k
    · rw [List.find?_cons_of_pos (by simpa using h)]
      exact valV_pos (p := ((Sum.inl q.1 : L2.Key), V.int q.2)) (by rw [h])
    · rw [List.find?_cons_of_neg (by simpa using h), ← ih]
      exact valV_neg (p := ((Sum.inl q.1 : L2.Key), V.int q.2)) (fun z => h (Sum.inl.inj z))
theorem getD_intKV {m : List (Int × Int)} {k j : Int} : (valV (intKV m) (.inl k)).getD (.int j) = .int ((getI m k).getD j) := by
  rw [valV_intKV]
  cases getI m k <;> rfl
theorem any_intKV {m : List (Int × Int)} {k : Int} : ((intKV m).any fun kv => decide (kv.1 = (.inl k : L2.Key))) = m.any fun q => decide (q.1 = k) := by
  unfold intKV
  rw [List.any_map]
  refine congrArg m.any (funext fun q => decide_eq_decide.mpr ⟨fun z => Sum.inl.inj z, fun z => congrArg Sum.inl z⟩)
theorem putK_intKV {m : List (Int × Int)} {k v : Int} : putK (intKV m) (.inl k) (.int v) = intKV (putI m k v) := by
  unfold putK putI
  rw [any_intKV]
  split
  · unfold intKV
    rw [List.map_map, List.map_map]
    refine List.map_congr_left fun q _ => ?_
    by_cases h : q.1 = k
    · have h2 : (Sum.inl q.1 : L2.Key) = .inl k := congrArg _ h
      simp only [Function.comp, if_pos h, if_pos h2]
    · have h2 : ¬ (Sum.inl q.1 : L2.Key) = .inl k := fun z => h (Sum.inl.inj z)
      simp only [Function.comp, if_neg h, if_neg h2]
  · unfold intKV
    rw [List.map_append]; rfl
theorem putI_length (m : List (Int × Int)) (k v : Int) : (putI m k v).length ≤ m.length + 1 := by
  unfold putI
  split
  · rw [List.length_map]; omega
  · rw [List.length_append]; exact Nat.le_refl _
section
variable {K : PySem.W.Frag} {H : Hp} {Q : VK} {a : Addr} {m : List (Int × Int)} {i j : Int}
theorem r_dgetI (h : H a = some (.dK (intKV m))) (k : Q (.int ((getI m i).getD j)) H) : ∃ o, DGet H a (.int i) o ∧ Q (o.getD (.int j)) H := by
  refine ⟨_, DGet.k (k := .inl i) h, ?_⟩
  rw [valV_intKV]
  cases hg : getI m i <;> rw [hg] at k <;> exact k
theorem r_dputI {R : Hp → Prop} (h : H a = some (.dK (intKV m))) (c : m.length < sizeLine) (k : ∀ H', But [a] H H' → H' a = some (.dK (intKV (putI m i j))) → R H') :
    ∃ b H4, V.ref a = .ref b ∧ DPut H b (.int i) (.int j) H4 ∧ R H4 := by
  refine ⟨a, _, rfl, DPut.k (k := .inl i) h (by unfold intKV; rw [List.length_map]; exact c), ?_⟩
  rw [putK_intKV]
  exact k _ (But.write h (fun z => z) (by simp)) upd_same
theorem getI_put {m : List (Int × Int)} {k v h : Int} : getI (putI m k v) h = if h = k then some v else getI m h := by
  unfold putI getI
  by_cases ha : (m.any fun q => decide (q.1 = k)) = true
  · rw [if_pos ha]
    induction m with
    | nil => simp at ha
    | cons q m ih =>
      rw [List.map_cons]
      by_cases hq : q.1 = k
      · rw [if_pos hq]
        by_cases hh : h = k
        · subst hh
          rw [if_pos rfl, List.find?_cons_of_pos (by simpa using hq)]; rfl
        · rw [if_neg hh]
          have hne : ¬ q.1 = h := fun z => hh (z ▸ hq)
          rw [List.find?_cons_of_neg (by simpa using hne), List.find?_cons_of_neg (by simpa using hne)]
          by_cases hm : (m.any fun q => decide (q.1 = k)) = true
          · rw [ih hm, if_neg hh]
          · have : m.map (fun q => if q.1 = k then (q.1, v) else q) = m := by
              conv => rhs; rw [← List.map_id m]
              refine List.map_congr_left fun z hz => ?_
              rw [if_neg fun e => hm (List.any_eq_true.mpr ⟨z, hz, decide_eq_true e⟩)]; rfl
            rw [this]
      · rw [if_neg hq]
        have hm : (m.any fun q => decide (q.1 = k)) = true := by
          rw [List.any_cons, decide_eq_false hq, Bool.false_or] at ha; exact ha
        by_cases hqh : q.1 = h
        · rw [List.find?_cons_of_pos (by simpa using hqh), List.find?_cons_of_pos (by simpa using hqh), if_neg fun z => hq (hqh.trans z)]
        · rw [List.find?_cons_of_neg (by simpa using hqh), List.find?_cons_of_neg (by simpa using hqh), ih hm]
  · rw [if_neg ha, List.find?_append]
    by_cases hh : h = k
    · subst hh
      rw [if_pos rfl]
      have : m.find? (fun q => decide (q.1 = h)) = none := List.find?_eq_none.mpr fun z hz e => ha (List.any_eq_true.mpr ⟨z, hz, e⟩)
      rw [this]
      simp
    · rw [if_neg hh]
      have : [(k, v)].find? (fun q => decide (q.1 = h)) = none := by simp [Ne.symm hh]
      rw [this, Option.or_none]
theorem putI_keys {m : List (Int × Int)} {k v : Int} (hm : (m.map (·.1)).Nodup) : ((putI m k v).map (·.1)).Nodup := by
  unfold putI
  split
  · rw [List.map_map]
    have : ((fun q : Int × Int => q.1) ∘ fun q => if q.1 = k then (q.1, v) else q) = fun q => q.1 := funext fun q => by
      by_cases h : q.1 = k <;> simp [h]
    rw [this]; exact hm
  · rename_i h
    rw [List.map_append]
    refine List.nodup_append.mpr ⟨hm, by simp, ?_⟩
    intro x hx y hy e
    obtain ⟨q, hq, rfl⟩ := List.mem_map.mp hx
    simp at hy
    exact h (List.any_eq_true.mpr ⟨q, hq, decide_eq_true (e.trans hy)⟩)
theorem lex_uniq {xs ys : List (Int × Int)} (h : xs.Perm ys) (h1 : xs.Pairwise Lex) (h2 : ys.Pairwise Lex) : xs = ys := by
  refine h.eq_of_pairwise (le := Lex) (fun a b _ _ q1 q2 => ?_) h1 h2
  have a1 := SrtO.lexB_no.mp q1
  have a2 := SrtO.lexB_no.mp q2
  exact Prod.ext (by omega) (by omega)
end
/-! ### slices -/
section
variable {σ : L2.St} {H : Hp} {K : PySem.W.Frag} {Q : VK} {te : TE} {tl th : TO} {xs : List V}
theorem r_sl {r : V → Option Int → Option Int → Hp → VK → Prop} (k : te σ H fun x H1 => tl σ H1 fun l H2 => th σ H2 fun u H3 => r x l u H3 Q) : tSl r te tl th σ H Q := k
theorem r_noPart {R : Option Int → Hp → Prop} (k : R none H) : tNoPart σ H R := k
theorem r_part {R : Option Int → Hp → Prop} (k : te σ H fun x H1 => ∃ i, x = .int i ∧ R (some i) H1) : tPart te σ H R := k
theorem r_exi {i : Int} {R : Int → Prop} (k : R i) : ∃ j, V.int i = .int j ∧ R j := ⟨i, rfl, k⟩
theorem cut_from {n : Nat} : cutV xs (some (n : Int)) none = xs.drop n := by
  unfold cutV
  rw [HT.sIx_nat, HT.sIx_none]
  by_cases h : n ≤ xs.length
  · rw [Nat.min_eq_left h]
    exact List.take_of_length_le (by rw [List.length_drop]; exact Nat.le_refl _)
  · rw [Nat.min_eq_right (by omega), Nat.sub_self, List.take_zero, List.drop_eq_nil_of_le (by omega)]
theorem cut_fromTo {n m : Nat} : cutV xs (some (n : Int)) (some (m : Int)) = (xs.drop n).take (m - n) := by
  unfold cutV
  rw [HT.sIx_nat, HT.sIx_nat]
  by_cases h : n ≤ xs.length
  · rw [Nat.min_eq_left h]
    by_cases h2 : m ≤ xs.length
    · rw [Nat.min_eq_left h2]
    · rw [Nat.min_eq_right (by omega), List.take_of_length_le (by rw [List.length_drop]; exact Nat.le_refl _), List.take_of_length_le (by rw [List.length_drop]; omega)]
  · rw [Nat.min_eq_right (a := n) (by omega), List.drop_eq_nil_of_le (Nat.le_refl _), List.drop_eq_nil_of_le (by omega), List.take_nil, List.take_nil]
theorem cut_to {m : Nat} : cutV xs none (some (m : Int)) = xs.take m := by
  unfold cutV
  rw [HT.sIx_none, HT.sIx_nat, List.drop_zero, Nat.sub_zero]
  by_cases h : m ≤ xs.length
  · rw [Nat.min_eq_left h]
  · rw [Nat.min_eq_right (by omega), List.take_of_length_le (Nat.le_refl _), List.take_of_length_le (by omega)]
end
/-! ### lists of ints -/
theorem layInts : ∀ ns : List Int, PyData.canLayAll0 (ns.map PyData.int) = true
  | [] => rfl
  | n :: ns => by
    show ((PyData.int n).canLay0 && PyData.canLayAll0 (ns.map PyData.int)) = true
    rw [layInts ns]; rfl
theorem depInts : ∀ ns : List Int, PyData.depthAll (ns.map PyData.int) = 0
  | [] => rfl
  | n :: ns => by
    show max (PyData.int n).depth (PyData.depthAll (ns.map PyData.int)) = 0
    rw [depInts ns]; rfl
theorem shapedInts (ns : List Int) : SeqAt.shaped (.list (ns.map PyData.int)) = true := by
  unfold SeqAt.shaped
  have h1 : (PyData.list (ns.map PyData.int)).canLay0 = true := layInts ns
  have h2 : (PyData.list (ns.map PyData.int)).depth ≤ 1 := by
    show PyData.depthAll (ns.map PyData.int) + 1 ≤ 1
    rw [depInts]; exact Nat.le_refl _
  rw [h1, decide_eq_true (by omega)]; rfl
theorem eqvInts : ∀ (ns ms : List Int), PyData.eqvAll (ns.map PyData.int) (ms.map PyData.int) = decide (ns = ms)
  | [], [] => rfl
  | [], _ :: _ => rfl
  | _ :: _, [] => rfl
  | n :: ns, m :: ms => by
    show (PyData.eqv (.int n) (.int m) && PyData.eqvAll (ns.map PyData.int) (ms.map PyData.int)) = _
    rw [eqvInts ns ms]
    have : PyData.eqv (.int n) (.int m) = decide (n = m) := by
      by_cases h : n = m
      · subst h; simp [PyData.eqv]
      · simp [PyData.eqv, h]
    rw [this, ← Bool.decide_and]
    exact decide_eq_decide.mpr (by simp)
theorem eqvListInts (ns ms : List Int) : PyData.eqv (.list (ns.map PyData.int)) (.list (ms.map PyData.int)) = decide (ns = ms) := by
  rw [← eqvInts]; rfl
theorem r_eqInts {K : PySem.W.Frag} {H : Hp} {Q : VK} {p q : Addr} {ns ms : List Int} (h1 : H p = some (.lst (ns.map V.int))) (h2 : H q = some (.lst (ms.map V.int))) (k : Q (.bl (decide (ns = ms))) H) : rEqA K (.ref p) (.ref q) H Q := by
  refine r_eqD (d := .list (ns.map PyData.int)) (e := .list (ms.map PyData.int)) ?_ ?_ (shapedInts ns) (shapedInts ms) (by rw [eqvListInts]; exact k)
  · exact (Dn.lst (S := []) h1 List.not_mem_nil DnAll.ints).dp
  · exact (Dn.lst (S := []) h2 List.not_mem_nil DnAll.ints).dp
theorem r_listItems {σ : L2.St} {H : Hp} {te : TE} {Q : VK} (k : te σ H fun x H1 => LiI.rItemsL x H1 Q) : LiI.tListItems te σ H Q := k
theorem r_itemsL {H : Hp} {Q : VK} {d : Addr} {kvs : List (Int × Int)} (h : H d = some (.dK (intKV kvs)))
    (k : ∀ p xs H', H p = none → Same H H' → H' p = some (.lst xs) → Paired (PairAt H') xs kvs → Q (.ref p) H') : LiI.rItemsL (.ref d) H Q :=
  ⟨d, _, rfl, h, fun H' p ts s hp _ _ hl hh => k p _ H' hp s hl (paired_pair hh)⟩
theorem r_par {i j : Nat} {ta : TA} {D : Ends} {σ : L2.St} {H : Hp} (k : ta σ H fun vs H1 => ∃ v w, vs = [v, w] ∧ D.nx ((σ.set i (some v)).set j (some w)) H1) : tPar i j ta D σ H := k
theorem r_ex2 {v w : V} {R : V → V → Prop} (k : R v w) : ∃ v' w', [v, w] = [v', w'] ∧ R v' w' := ⟨v, w, rfl, k⟩
end J

set_option Elab.async false
set_option linter.all false
set_option maxRecDepth 100000
set_option maxHeartbeats 4000000
namespace J
open PySem PySem.Spec L2 PyProof.Rows
/-! ### statements, expressions that no run reaches -/
theorem ps_dead {X : Cx} {st : Stmt} : PS X st (fun _ _ _ => False) := ⟨fun _ _ _ _ _ _ h => h.elim⟩
theorem pe_dead {X : Cx} {e : Expr} : PE X e (fun _ _ _ => False) := ⟨fun _ _ _ _ _ _ h => h.elim⟩
/-! ### types of data -/
def tyD : PyData → String
  | .none => "NoneType"
  | .bool _ => "bool"
  | .int _ => "int"
  | .str _ => "str"
  | .list _ => "list"
  | .tuple _ => "tuple"
  | .dict _ => "dict"
def isIntD : PyData → Bool
  | .int _ => true
  | .bool _ => true
  | _ => false
def isBoolD : PyData → Bool
  | .bool _ => true
  | _ => false
def isStrD : PyData → Bool
  | .str _ => true
  | _ => false
def isTupD : PyData → Bool
  | .tuple _ => true
  | _ => false
def isListD : PyData → Bool
  | .list _ => true
  | _ => false
theorem kit_int (d : PyData) : kitB (tyD d) "int" = some (isIntD d) := by cases d <;> (simp only [tyD, isIntD, isBoolD, isStrD, isTupD, isListD]; decide +kernel)
theorem kit_bool (d : PyData) : kitB (tyD d) "bool" = some (isBoolD d) := by cases d <;> (simp only [tyD, isIntD, isBoolD, isStrD, isTupD, isListD]; decide +kernel)
theorem kit_str (d : PyData) : kitB (tyD d) "str" = some (isStrD d) := by cases d <;> (simp only [tyD, isIntD, isBoolD, isStrD, isTupD, isListD]; decide +kernel)
theorem kit_tup (d : PyData) : kitB (tyD d) "tuple" = some (isTupD d) := by cases d <;> (simp only [tyD, isIntD, isBoolD, isStrD, isTupD, isListD]; decide +kernel)
theorem kit_list (d : PyData) : kitB (tyD d) "list" = some (isListD d) := by cases d <;> (simp only [tyD, isIntD, isBoolD, isStrD, isTupD, isListD]; decide +kernel)
theorem tyx_of {K : PySem.W.Frag} {S : List Addr} {H : Hp} {v : V} {d : PyData} (h : Dn K S H v d) : TyX K H v (.type (tyD d)) := by
  cases h with
  | non => exact .base .non
  | bl b => exact .base (.bl b)
  | int i => exact .base (.int i)
  | str x => exact .base (.str x)
  | lst h1 _ _ => exact .base (.lst h1)
  | tup h1 _ =>
    rcases h1 with (h1 | ⟨o, h1⟩) | h1
    · exact .base (.tup h1)
    · exact .fTuple h1
    · obtain ⟨o, _, _, hk, hc, _⟩ := h1
      exact .kTuple hk hc
section
variable {X : Cx} {K : PySem.W.Frag} {CX : CXT} {k j n : Nat} {C : Addr} {x m T : Str} {sp : Sp} {e o : Expr} {es : List Expr} {ta te : TE} {t tk : TA} {p pos apos : Pos} {kws : List Keyword} {ks : List Str}
theorem pe_tyN {T : String} (hg : Gl X x) (hm : X.mg x = none) (hv : bootBuiltins x = some (.type T)) (hn : x ≠ "__name__" := by decide) (hd : (x == ("__debug__" : Str)) = false := by decide) : PE X (.Name x pos) (tC (.ty T)) :=
  pe_bltn hg hm hv rfl hn hd
theorem pe_gint {i : Int} {tk : Tok} (hg : Gl X x) (hm : X.mg x = some (.int i tk)) (hd : (x == ("__debug__" : Str)) = false := by decide) : PE X (.Name x pos) (tC (.int i)) := pe_glob hg hm ⟨_, rfl⟩ hd
theorem pe_gintE {i : Int} (hg : Gl X x) (hm : ∃ tk, X.mg x = some (.int i tk)) (hd : (x == ("__debug__" : Str)) = false := by decide) : PE X (.Name x pos) (tC (.int i)) := by
  obtain ⟨tk, hm⟩ := hm
  exact pe_gint hg hm hd
theorem call_isiA (e : X.K = K := by rfl) : CallR X (.builtin "isinstance") (rIsi K) := by subst e; exact call_isi
/-- a def called with keywords -/
structure ClK (P : Program) (w : World) (K : PySem.W.Frag) (mg : Str → Option Value) (base : Heap) (CX : CXT) (k : Nat) (x : Str) (n : Nat) (ks : List Str) (sp : Sp) : Prop where
  ex : ∃ f fd ps g gV, FnOk P w K mg base CX k f fd ps sp ∧ mg x = some (.ref f) ∧ PySem.W.keepIn K (.ref f) = true ∧ KBn K fd ps n ks g gV ∧ gV = fun vs zs => vs ++ zs
def tKw (n m : Nat) (sp : Sp) (t tk : TA) : TE := fun σ H Q => t σ H fun vs H1 => tk σ H1 fun zs H2 => vs.length = n ∧ zs.length = m ∧ sp (vs ++ zs) H2 Q E0
theorem pe_clK (c : ClK X.prog X.w X.K X.mg X.base CX0 k x n ks sp) (hr : Room j X.A) (hk : k ≤ j) (ha : PA X (e :: es) t) (hkw : PK X kws tk) (hg : Gl X x := by rfl)
    (hall : (backToKw pos (keywordEach kws X.env)).all (·.1.isSome) = true := by rfl) (hks : (backToKw pos (keywordEach kws X.env)).filterMap (·.1) = ks := by rfl)
    (hdb : (x == ("__debug__" : Str)) = false := by decide) (he : starEach (e :: es) X.env = (false, eval e X.env) :: starEach es X.env := by rfl)
    (hpl : ((backTo pos (starEach (e :: es) X.env)).any (·.1) || (backToKw pos (keywordEach kws X.env)).any (·.1.isNone)) = false := by rfl) :
    PE X (.Call (.Name x p) (e :: es) kws pos) (tKw n ks.length sp t tk) := by
  obtain ⟨f, fd, ps, g, gV, F, hm, kp, hb, eg⟩ := c.ex
  have h := pe_callN F (hr.mono hk) hg hm kp hb pass0 ha hkw hall hks hdb he hpl (p := p)
  rw [eg] at h
  exact h
theorem pe_cld {dvs : List V} (c : C8.Cal X.prog X.w X.K X.mg X.base k x sp dvs) (hr : Room j X.A) (hk : k ≤ j) (ha : PA X (e :: es) t) (hg : Gl X x := by rfl)
    (hdb : (x == ("__debug__" : Str)) = false := by decide) (he : starEach (e :: es) X.env = (false, eval e X.env) :: starEach es X.env := by rfl) (hpl : (backTo pos (starEach es X.env)).any (·.1) = false := by rfl) :
    PE X (.Call (.Name x p) (e :: es) [] pos) (tCall sp dvs E0 t) := C8.pe_c c hr hk hg ha hdb he hpl
theorem ps_fldA {value : Expr} {f : Str} {tv : TE} {pos' : Pos} (ha : PE X o ta) (hv : PE X value tv) (hs : swapsWith value (some (.Attribute o f pos')) pos.line X.env = pure false := by rfl) (e : X.K = K := by rfl) :
    PS X (.Assign [.Attribute o f pos'] value pos) (sFld K ta tv f) := by subst e; exact ps_fld ha hv hs
theorem ps_fldaugA {value : Expr} {f : Str} {tv : TE} {op : Operator} {tpos : Pos} {rd : V → V → Hp → VK → Prop} (ha : PE X o ta) (hv : PE X value tv) (hop : InOp X op rd) (e : X.K = K := by rfl) :
    PS X (.AugAssign (.Attribute o f tpos) op value pos) (sFldAug K ta tv rd f) := by subst e; exact ps_fldaug ha hv hop
theorem in_ofR {op : Operator} {r : R2} (h : OpR X (inplaceOp op) r) : InOp X op r := h
theorem pi_zipB {e2 : Expr} {elts : List Expr} {kk : Nat} {tpos : Pos} {tz : TA} (hg : Gl X "zip") (hm : X.mg "zip" = none) (ha : PA X [e, e2] tz)
    (hs : starEach [e, e2] X.env = (false, eval e X.env) :: starEach [e2] X.env := by rfl) (hpl : (backTo pos (starEach [e2] X.env)).any (·.1) = false := by rfl) (ek : X.K = K := by rfl) :
    PI X (.Tuple elts kk tpos) (.Call (.Name "zip" p) [e, e2] [] pos) (RZ.iZipA K tz) := by subst ek; exact RZ.pi_zipA hg hm ha hs hpl
end
section
variable {σ : L2.St} {H : Hp} {K : PySem.W.Frag} {Q : VK} {S : List Addr} {a C dx : Addr} {fs : List (Str × V)} {f m : Str} {v x : V} {d : PyData} {ta te tv : TE} {t tk : TA} {sp : Sp} {dvs : List V} {E : XK} {D : Ends}
/-! ### isinstance -/
theorem r_isi {T : String} {b : Bool} (h : Dn K S H x d) (e : kitB (tyD d) T = some b) (k : Q (.bl b) H) : rIsi K [x, .ty T] H Q :=
  ⟨x, _, _, _, b, rfl, .ty T, tyx_of h, kit_ty e, k⟩
theorem r_isInt (h : Dn K S H x d) (k : Q (.bl (isIntD d)) H) : rIsi K [x, .ty "int"] H Q := r_isi h (kit_int d) k
theorem r_isBool (h : Dn K S H x d) (k : Q (.bl (isBoolD d)) H) : rIsi K [x, .ty "bool"] H Q := r_isi h (kit_bool d) k
theorem r_isStr (h : Dn K S H x d) (k : Q (.bl (isStrD d)) H) : rIsi K [x, .ty "str"] H Q := r_isi h (kit_str d) k
theorem r_isTup (h : Dn K S H x d) (k : Q (.bl (isTupD d)) H) : rIsi K [x, .ty "tuple"] H Q := r_isi h (kit_tup d) k
theorem r_isList (h : Dn K S H x d) (k : Q (.bl (isListD d)) H) : rIsi K [x, .ty "list"] H Q := r_isi h (kit_list d) k
/-! ### fields, methods, new instances -/
def FldAt (K : PySem.W.Frag) (f : Str) (x : V) (H : Hp) (Q : VK) : Prop := ∃ a C dx fs v, x = .ref a ∧ H a = some (.ins C dx fs) ∧ Cls K C ∧ NoAttr K C f ∧ fs.lookup f = some v ∧ Q v H
theorem r_fld (k : ta σ H fun x H1 => FldAt K f x H1 Q) : tFld K ta f σ H Q := k
theorem r_fldAt (h : H a = some (.ins C dx fs)) (c : Cls K C) (n : NoAttr K C f) (l : fs.lookup f = some v) (k : Q v H) : FldAt K f (.ref a) H Q := ⟨a, C, dx, fs, v, rfl, h, c, n, l, k⟩
def SetAt (K : PySem.W.Frag) (f : Str) (y : V) (x : V) (H : Hp) (R : Hp → Prop) : Prop := ∃ a C dx fs, x = .ref a ∧ H a = some (.ins C dx fs) ∧ Cls K C ∧ NoAttr K C f ∧ fs.length < 1000 ∧ R (upd H a (.ins C dx (putF f y fs)))
theorem r_sfld (k : tv σ H fun y H1 => ta σ H1 fun x H2 => SetAt K f y x H2 fun H3 => D.nx σ H3) : sFld K ta tv f D σ H := k
theorem r_setAt {R : Hp → Prop} {y : V} (h : H a = some (.ins C dx fs)) (c : Cls K C) (n : NoAttr K C f) (l : fs.length < 1000) (k : ∀ H', But [a] H H' → H' a = some (.ins C dx (putF f y fs)) → R H') : SetAt K f y (.ref a) H R :=
  ⟨a, C, dx, fs, rfl, h, c, n, l, k _ (But.write h (fun z => z) (by simp)) upd_same⟩
def AugAt (K : PySem.W.Frag) (f : Str) (σ : L2.St) (tv : TE) (rd : R2) (x : V) (H : Hp) (R : Hp → Prop) : Prop := ∃ a C dx fs v, x = .ref a ∧ H a = some (.ins C dx fs) ∧ Cls K C ∧ NoAttr K C f ∧ fs.lookup f = some v ∧
  tv σ H fun y H2 => rd v y H2 fun z H3 => ∃ dx' fs', H3 a = some (.ins C dx' fs') ∧ fs'.length < 1000 ∧ R (upd H3 a (.ins C dx' (putF f z fs')))
theorem r_sfldaug {rd : R2} (k : ta σ H fun x H1 => AugAt K f σ tv rd x H1 fun H3 => D.nx σ H3) : sFldAug K ta tv rd f D σ H := k
def PutAt (f : Str) (a C : Addr) (z : V) (H : Hp) (R : Hp → Prop) : Prop := ∃ dx' fs', H a = some (.ins C dx' fs') ∧ fs'.length < 1000 ∧ R (upd H a (.ins C dx' (putF f z fs')))
theorem r_putAt {R : Hp → Prop} {z : V} (h : H a = some (.ins C dx fs)) (l : fs.length < 1000) (k : ∀ H', But [a] H H' → H' a = some (.ins C dx (putF f z fs)) → R H') : PutAt f a C z H R :=
  ⟨dx, fs, h, l, k _ (But.write h (fun z => z) (by simp)) upd_same⟩
theorem r_augAt {R : Hp → Prop} {rd : R2} (h : H a = some (.ins C dx fs)) (c : Cls K C) (n : NoAttr K C f) (l : fs.lookup f = some v) (k : tv σ H fun y H2 => rd v y H2 fun z H3 => PutAt f a C z H3 R) : AugAt K f σ tv rd (.ref a) H R :=
  ⟨a, C, dx, fs, v, rfl, h, c, n, l, k⟩
def MethAt (C : Addr) (m : Str) (sp : Sp) (dvs : List V) (E : XK) (σ : L2.St) (t : TA) (x : V) (H : Hp) (Q : VK) : Prop := ∃ a dx fs, x = .ref a ∧ H a = some (.ins C dx fs) ∧ fs.lookup m = none ∧ t σ H fun vs H2 => sp (x :: (vs ++ dvs)) H2 Q E
theorem r_meth (k : ta σ H fun x H1 => MethAt C m sp dvs E σ t x H1 Q) : tMeth C m sp dvs E ta t σ H Q := k
theorem r_methAt (h : H a = some (.ins C dx fs)) (l : fs.lookup m = none) (k : t σ H fun vs H2 => sp (.ref a :: (vs ++ dvs)) H2 Q E) : MethAt C m sp dvs E σ t (.ref a) H Q := ⟨a, dx, fs, rfl, h, l, k⟩
def MakeAt (C : Addr) (sp : Sp) (dvs : List V) (E : XK) (vs : List V) (H : Hp) (Q : VK) : Prop := ∀ x dx, H x = none → H dx = none → dx ≠ x → sp (.ref x :: (vs ++ dvs)) (upd (upd H dx (.own x)) x (.ins C dx [])) (fun v H2 => v = .non ∧ Q (.ref x) H2) E
theorem r_make (k : t σ H fun vs H1 => MakeAt C sp dvs E vs H1 Q) : tMake C sp dvs E t σ H Q := k
theorem r_makeAt {vs : List V} (k : ∀ x dx H', H x = none → Same H H' → H' x = some (.ins C dx []) → sp (.ref x :: (vs ++ dvs)) H' (fun v H2 => v = .non ∧ Q (.ref x) H2) E) : MakeAt C sp dvs E vs H Q := fun x dx hx hd hn =>
  k x dx _ hx (fun b o e => by
    rw [upd_ne (ne_of_none e hx), upd_ne (ne_of_none e hd)]; exact e) upd_same
theorem r_callD (k : t σ H fun vs H1 => sp (vs ++ dvs) H1 Q E) : tCall sp dvs E t σ H Q := k
def KwAt (n m : Nat) (sp : Sp) (vs zs : List V) (H : Hp) (Q : VK) : Prop := vs.length = n ∧ zs.length = m ∧ sp (vs ++ zs) H Q E0
theorem r_kw {n m : Nat} (k : t σ H fun vs H1 => tk σ H1 fun zs H2 => KwAt n m sp vs zs H2 Q) : tKw n m sp t tk σ H Q := k
theorem r_kwAt {vs zs : List V} {n m : Nat} (h : vs.length = n) (h' : zs.length = m) (k : sp (vs ++ zs) H Q E0) : KwAt n m sp vs zs H Q := ⟨h, h', k⟩
/-! ### and, or as values, chains, is None -/
theorem r_isN (k : Q (.bl (decide (x = .non))) H) : (fun x y H (Q : VK) => y = V.non ∧ Q (.bl (decide (x = .non))) H) x .non H Q := ⟨rfl, k⟩
end
section
variable {σ : L2.St} {H : Hp} {K : PySem.W.Frag} {Q : VK} {ta tb te : TE} {x y : V} {a b : Addr} {xs ys : List V} {t : TA}
theorem r_andV (k : ta σ H fun x H1 => ∃ c, x = .bl c ∧ if c = true then tb σ H1 Q else Q (.bl false) H1) : tAndV ta tb σ H Q := k
theorem r_orV (k : ta σ H fun x H1 => ∃ c, x = .bl c ∧ if c = true then Q (.bl true) H1 else tb σ H1 Q) : tOrV ta tb σ H Q := k
theorem r_notV (k : ta σ H fun x H1 => ∃ c, x = .bl c ∧ Q (.bl (!c)) H1) : tNotV ta σ H Q := k
theorem r_leI {i j : Int} (k : Q (.bl (decide (i ≤ j))) H) : rI0 (fun i j => .bl (decide (i ≤ j))) (.int i) (.int j) H Q := ⟨i, j, rfl, rfl, k⟩
theorem r_chain {r r' : R2} {tc : TE} (k : ta σ H fun x H1 => tb σ H1 fun y H2 => r x y H2 fun z H3 => ∃ k, z = .bl k ∧ (if k = true then tc σ H3 fun w' H4 => r' y w' H4 Q else Q (.bl false) H3)) : tChain r r' ta tb tc σ H Q := k
/-- truth of a bool -/
theorem r_truB {c : Bool} {R : Bool → Prop} (k : R c) : ∃ n, TruV K (.bl c) H n ∧ R n := ⟨c, rfl, k⟩
theorem r_truA {R : Bool → Hp → Prop} (k : ta σ H fun x H' => ∃ k, TruV K x H' k ∧ R k H') : tTruA K ta σ H R := k
/-! ### zip in a comprehension -/
def LcZ (K : PySem.W.Frag) (g : TG) (tt : TT) (te : TE) (vs : List Nat) (σ : L2.St) (Q : VK) (ws : List V) (H : Hp) : Prop :=
  ∃ a b xs ys, ws = [.ref a, .ref b] ∧ ((SqL K H a xs ∧ SqL K H b ys ∧ LcG (Itz K a b) g tt te vs σ Q H) ∨ (SqT K H a xs ∧ SqT K H b ys ∧ LcG (RZ.ItzT K a b) g tt te vs σ Q H))
theorem r_lcZ {g : TG} {tt : TT} {vs : List Nat} (k : t σ H fun ws H1 => LcZ K g tt te vs σ Q ws H1) : tLc (RZ.iZipA K t) g tt te vs σ H Q := k
theorem lcZT {g : TG} {tt : TT} {vs : List Nat} (ha : SqT K H a xs) (hb : SqT K H b ys) (mk : ∀ l H0, H l = none → Same H H0 → H0 l = some (.lst []) → ∃ Pv : Nat → Hp → Prop, Pv 0 H0 ∧ (∀ i H, Pv i H → SqT K H a xs ∧ SqT K H b ys) ∧
      (∀ i x y T H H', xs[i]? = some x → ys[i]? = some y → Pv i H → H T = none → Same H H' → H' T = some (.tup [x, y]) → LTurn g tt te vs l (Pv (i + 1)) (.ref T) σ H') ∧ ∀ H, Pv (min xs.length ys.length) H → Q (.ref l) H) :
    LcZ K g tt te vs σ Q [.ref a, .ref b] H := by
  refine ⟨a, b, xs, ys, rfl, .inr ⟨ha, hb, fun l hl => ?_⟩⟩
  obtain ⟨Pv, h0, h1, h2, h3⟩ := mk l _ hl (But.new (S := []) hl).same upd_same
  refine ⟨fun i m H => m = min xs.length ys.length - i ∧ i ≤ min xs.length ys.length ∧ Pv i H, ⟨_, rfl, Nat.zero_le _, h0⟩, ?_⟩
  rintro i m H ⟨rfl, hi, p⟩
  obtain ⟨q1, q2⟩ := h1 i H p
  by_cases hlt : i < min xs.length ys.length
  · have e1 : xs[i]? = some xs[i] := List.getElem?_eq_getElem (by omega)
    have e2 : ys[i]? = some ys[i] := List.getElem?_eq_getElem (by omega)
    refine .inr ⟨⟨xs, ys, _, _, q1, q2, e1, e2⟩, Pv (i + 1), fun H' p' => ⟨_, by omega, rfl, by omega, p'⟩, fun v H' y => ?_⟩
    obtain ⟨T, x, z, rfl, hT, rfl, f1, f2⟩ := y
    exact h2 i x z T H _ (f1 xs q1) (f2 ys q2) p hT (But.new (S := []) hT).same upd_same
  · have e : i = min xs.length ys.length := by omega
    refine .inl ⟨⟨xs, ys, q1, q2, by omega⟩, h3 H ?_⟩
    rw [← e]; exact p
end
section
variable {H : Hp} {K : PySem.W.Frag} {Q : VK} {p : Addr} {xs : List V}
/-- t[lo:hi] of a tuple -/
theorem r_slT {lo hi : Option Int} (h : SqT K H p xs) (k : ∀ l H', Same H H' → SqT K H' l (cutV xs lo hi) → Q (.ref l) H') : rSlAny K (.ref p) lo hi H Q := by
  refine .inr ⟨p, xs, rfl, h, fun c => ?_, fun c l hl => k l _ (But.new (S := []) hl).same (SqT.of upd_same)⟩
  have e : cutV xs lo hi = xs := by
    unfold cutV
    rw [c.1, c.2, List.drop_zero, Nat.sub_zero, List.take_of_length_le (Nat.le_refl _)]
  exact k p H (fun _ _ e => e) (by rw [e]; exact h)
end
theorem at0 {a : V} {xs : List V} : atI (a :: xs) 0 = some a := atI_nat (xs := a :: xs) (j := 0) rfl
theorem at1 {a b : V} {xs : List V} : atI (a :: b :: xs) 1 = some b := atI_nat (xs := a :: b :: xs) (j := 1) rfl
theorem at2 {a b c : V} {xs : List V} : atI (a :: b :: c :: xs) 2 = some c := atI_nat (xs := a :: b :: c :: xs) (j := 2) rfl
def rIsNn : R2 := fun x y H Q => y = .non ∧ Q (.bl (decide (x = .non))) H
def rNotNn : R2 := fun x y H Q => y = .non ∧ Q (.bl (!decide (x = .non))) H
theorem op_isNA {X : Cx} : OpR X (compareOp .Is) rIsNn := op_isN
theorem op_notNA {X : Cx} : OpR X (compareOp .IsNot) rNotNn := op_notN
theorem r_isNn {x : V} {H : Hp} {Q : VK} (k : Q (.bl (decide (x = .non))) H) : rIsNn x .non H Q := ⟨rfl, k⟩
theorem r_notNn {x : V} {H : Hp} {Q : VK} (k : Q (.bl (!decide (x = .non))) H) : rNotNn x .non H Q := ⟨rfl, k⟩
end J

set_option Elab.async false
set_option linter.all false
set_option maxRecDepth 100000
set_option maxHeartbeats 4000000
namespace J
open PySem L2 PyProof.Rows
/-! ### numbers, values -/
def intB : PyData → Bool
  | .int _ => true
  | _ => false
def betB (d : PyData) (lo hi : Int) : Bool := match d with
  | .int i => decide (lo ≤ i) && decide (i ≤ hi)
  | _ => false
mutual
def valB : PyData → Nat → Bool
  | .tuple xs, k => decide (k < 8) && valsB xs (k + 1)
  | .int _, _ => true
  | .str _, _ => true
  | _, _ => false
def valsB : List PyData → Nat → Bool
  | [], _ => true
  | x :: xs, k => valB x k && valsB xs k
end
theorem valsB_all {k : Nat} : ∀ {xs : List PyData}, valsB xs k = xs.all fun x => valB x k
  | [] => rfl
  | x :: xs => by
    show (valB x k && valsB xs k) = _
    rw [valsB_all]; rfl
mutual
theorem valB_nol : ∀ (d : PyData) (k : Nat), valB d k = true → noL d = true
  | .tuple xs, k, h => by
    have h2 : (decide (k < 8) && valsB xs (k + 1)) = true := h
    rw [Bool.and_eq_true] at h2
    exact valsB_nol xs (k + 1) h2.2
  | .int _, _, _ => rfl
  | .str _, _, _ => rfl
  | .none, _, h => rfl
  | .bool _, _, h => rfl
  | .list _, _, h => by simp [valB] at h
  | .dict _, _, h => by simp [valB] at h
theorem valsB_nol : ∀ (ds : List PyData) (k : Nat), valsB ds k = true → noLs ds = true
  | [], _, _ => rfl
  | x :: xs, k, h => by
    have h2 : (valB x k && valsB xs k) = true := h
    rw [Bool.and_eq_true] at h2
    show (noL x && noLs xs) = true
    rw [valB_nol x k h2.1, valsB_nol xs k h2.2]; rfl
end
theorem noLs_all : ∀ {xs : List PyData}, noLs xs = true ↔ ∀ x ∈ xs, noL x = true
  | [] => by simp [noLs]
  | x :: xs => by
    have ih := noLs_all (xs := xs)
    show (noL x && noLs xs) = true ↔ _
    rw [Bool.and_eq_true, ih]
    simp
theorem noLs_map {α : Type} {f : α → PyData} {xs : List α} (h : ∀ x ∈ xs, noL (f x) = true) : noLs (xs.map f) = true :=
  noLs_all.mpr fun d hd => by
    obtain ⟨x, hx, rfl⟩ := List.mem_map.mp hd
    exact h x hx
section
variable {K : PySem.W.Frag} {S S' T : List Addr} {H H' : Hp} {v : V} {d : PyData} {vs : List V} {ds : List PyData}
/-- data without lists stays whatever else changes -/
theorem Dn.nlb (h : Dn K S H v d) (n : noL d = true) (b : But T H H') : Dn K S' H' v d :=
  ((h.any n (T := T)).but b fun _ q => q).any n
theorem DnAll.nlb (h : DnAll K S H vs ds) (n : noLs ds = true) (b : But T H H') : DnAll K S' H' vs ds :=
  ((h.any n (T := T)).but b fun _ q => q).any n
end
/-! ### no tuple of more than a million items -/
mutual
def slim : PyData → Bool
  | .tuple xs => decide (xs.length ≤ 1000000) && slims xs
  | .list xs => decide (xs.length ≤ 1000000) && slims xs
  | _ => true
def slims : List PyData → Bool
  | [] => true
  | x :: xs => slim x && slims xs
end
theorem slims_mem {xs : List PyData} {d : PyData} (h : slims xs = true) (hd : d ∈ xs) : slim d = true := by
  induction xs with
  | nil => simp at hd
  | cons x xs ih =>
    have h2 : (slim x && slims xs) = true := h
    rw [Bool.and_eq_true] at h2
    rcases List.mem_cons.mp hd with e | hd
    · rw [e]; exact h2.1
    · exact ih h2.2 hd
theorem slim_tup {xs : List PyData} (h : slim (.tuple xs) = true) : xs.length ≤ 1000000 ∧ slims xs = true := by
  have h2 : (decide (xs.length ≤ 1000000) && slims xs) = true := h
  rw [Bool.and_eq_true, decide_eq_true_iff] at h2
  exact h2
/-! ### frames over sets of addresses -/
/-- none of them is in use -/
def Fr (S : List Addr) (H : Hp) : Prop := ∀ s ∈ S, H s = none
/-- no address of both -/
def Dj (S T : List Addr) : Prop := ∀ s ∈ S, s ∉ T
section
variable {S T U : List Addr} {H H' H1 : Hp} {a : Addr}
theorem Dj.symm (h : Dj S T) : Dj T S := fun t ht hs => h t hs ht
theorem Dj.nil : Dj S [] := fun _ _ h => nomatch h
theorem Dj.nil' : Dj [] S := fun _ h => nomatch h
theorem Dj.cons (h : a ∉ S) (k : Dj S T) : Dj S (a :: T) := fun s hs ht => (List.mem_cons.mp ht).elim (fun e => h (e ▸ hs)) (k s hs)
theorem Dj.of_fr (h : Fr S H) (l : Live T H) : Dj S T := fun s hs ht => l s ht (h s hs)
theorem ni_fr (h : Fr S H) (l : H a ≠ none) : a ∉ S := fun z => l (h a z)
theorem bc_frs (h : Fr T H) : ∀ t ∈ T, t ∈ S ∨ H t = none := fun t ht => .inr (h t ht)
theorem bc_self : ∀ t ∈ S, t ∈ S ∨ H t = none := fun _ h => .inl h
theorem bc_sub (h : ∀ t ∈ T, t ∈ S) : ∀ t ∈ T, t ∈ S ∨ H t = none := fun t ht => .inl (h t ht)
theorem fr_back (h : Fr S H') (l : Le H H') : Fr S H := fun s hs => fr_le l (h s hs)
end
/-- what a block may hold here -/
def blockB (v : PyData) : Bool := valB v 0 && (slim v && v.canLay0)
theorem blockB_val {v : PyData} (h : blockB v = true) : valB v 0 = true := by
  unfold blockB at h; rw [Bool.and_eq_true] at h; exact h.1
theorem blockB_slim {v : PyData} (h : blockB v = true) : slim v = true := by
  unfold blockB at h; rw [Bool.and_eq_true, Bool.and_eq_true] at h; exact h.2.1
theorem blockB_lay {v : PyData} (h : blockB v = true) : v.canLay0 = true := by
  unfold blockB at h; rw [Bool.and_eq_true, Bool.and_eq_true] at h; exact h.2.2
theorem blockB_nol {v : PyData} (h : blockB v = true) : noL v = true := valB_nol v 0 (blockB_val h)
mutual
theorem valB_dep : ∀ (d : PyData) (k : Nat), valB d k = true → d.depth + k ≤ 9 + k ∧ (d.depth = 0 ∨ d.depth + k ≤ 9)
  | .tuple xs, k, h => by
    have h2 : (decide (k < 8) && valsB xs (k + 1)) = true := h
    rw [Bool.and_eq_true, decide_eq_true_iff] at h2
    have h3 := valsB_dep xs (k + 1) h2.2
    have e : (PyData.tuple xs).depth = PyData.depthAll xs + 1 := rfl
    rw [e]
    omega
  | .int _, _, _ => ⟨by show 0 + _ ≤ _; omega, .inl rfl⟩
  | .str _, _, _ => ⟨by show 0 + _ ≤ _; omega, .inl rfl⟩
  | .none, _, h => by simp [valB] at h
  | .bool _, _, h => by simp [valB] at h
  | .list _, _, h => by simp [valB] at h
  | .dict _, _, h => by simp [valB] at h
theorem valsB_dep : ∀ (ds : List PyData) (k : Nat), valsB ds k = true → PyData.depthAll ds = 0 ∨ PyData.depthAll ds + k ≤ 9
  | [], _, _ => .inl rfl
  | x :: xs, k, h => by
    have h2 : (valB x k && valsB xs k) = true := h
    rw [Bool.and_eq_true] at h2
    have h3 := valB_dep x k h2.1
    have h4 := valsB_dep xs k h2.2
    have e : PyData.depthAll (x :: xs) = max x.depth (PyData.depthAll xs) := rfl
    rw [e]
    omega
end
theorem blockB_shaped {v : PyData} (h : blockB v = true) : SeqAt.shaped v = true := by
  have h1 := (valB_dep v 0 (blockB_val h)).1
  unfold SeqAt.shaped
  rw [blockB_lay h, decide_eq_true (by omega)]; rfl
/-! ### disks -/
structure DM where
  first : List PyData
  safe : List PyData
  writes : List (Int × PyData)
  deeds : List (Option (Int × PyData))
def dWr (w : Int × PyData) : PyData := .tuple [.int w.1, w.2]
def dEv : Option (Int × PyData) → PyData
  | some w => .tuple [.str "write", .int w.1, w.2]
  | none => .tuple [.str "flush"]
def zeros (n : Nat) : List PyData := List.replicate n (.int 0)
def DM.new (n : Nat) : DM := ⟨zeros n, zeros n, [], []⟩
def lastW (ws : List (Int × PyData)) (b : Int) (d : PyData) : PyData := ws.foldl (fun acc w => if w.1 = b then w.2 else acc) d
def DM.read (D : DM) (b : Int) : PyData := lastW D.writes b (D.safe.getD b.toNat .none)
def DM.write (D : DM) (b : Int) (v : PyData) : DM := { D with writes := D.writes ++ [(b, v)], deeds := D.deeds ++ [some (b, v)] }
def putAll (ws : List (Int × PyData)) (s : List PyData) : List PyData := ws.foldl (fun s w => s.set w.1.toNat w.2) s
def DM.flush (D : DM) : DM := { D with safe := putAll D.writes D.safe, writes := [], deeds := D.deeds ++ [none] }
/-- a right disk of n blocks, at most m events -/
structure DOk (n m : Nat) (D : DM) : Prop where
  n1 : 1 ≤ n
  n2 : n ≤ 128
  fl : D.first.length = n
  sl : D.safe.length = n
  fv : ∀ v ∈ D.first, blockB v = true
  sv : ∀ v ∈ D.safe, blockB v = true
  wv : ∀ w ∈ D.writes, 0 ≤ w.1 ∧ w.1 < n ∧ blockB w.2 = true
  dv : ∀ w, some w ∈ D.deeds → 0 ≤ w.1 ∧ w.1 < n ∧ blockB w.2 = true
  wl : D.writes.length ≤ D.deeds.length
  dl : D.deeds.length ≤ m
theorem putAll_length (ws : List (Int × PyData)) (s : List PyData) : (putAll ws s).length = s.length := by
  unfold putAll
  induction ws generalizing s with
  | nil => rfl
  | cons w ws ih => rw [List.foldl_cons, ih, List.length_set]
theorem putAll_mem {ws : List (Int × PyData)} {s : List PyData} {v : PyData} (h : v ∈ putAll ws s) : v ∈ s ∨ ∃ w ∈ ws, v = w.2 := by
  unfold putAll at h
  induction ws generalizing s with
  | nil => exact .inl h
  | cons w ws ih =>
    rw [List.foldl_cons] at h
    rcases ih h with h | ⟨u, hu, e⟩
    · rcases List.mem_or_eq_of_mem_set h with h | h
      · exact .inl h
      · exact .inr ⟨w, List.mem_cons_self, h⟩
    · exact .inr ⟨u, List.mem_cons_of_mem _ hu, e⟩
theorem DOk.new {n : Nat} (h1 : 1 ≤ n) (h2 : n ≤ 128) : DOk n 0 (DM.new n) :=
  ⟨h1, h2, List.length_replicate, List.length_replicate, fun v hv => by rw [List.eq_of_mem_replicate hv]; rfl, fun v hv => by rw [List.eq_of_mem_replicate hv]; rfl,
    fun w h => by simp [DM.new] at h, fun w h => by simp [DM.new] at h, Nat.le_refl _, Nat.le_refl _⟩
theorem DOk.write {n m : Nat} {D : DM} {b : Int} {v : PyData} (h : DOk n m D) (h0 : 0 ≤ b) (h1 : b < n) (hv : blockB v = true) : DOk n (m + 1) (D.write b v) := by
  refine ⟨h.n1, h.n2, h.fl, h.sl, h.fv, h.sv, fun w hw => ?_, fun w hw => ?_, ?_, ?_⟩
  · rcases List.mem_append.mp hw with hw | hw
    · exact h.wv w hw
    · rw [List.mem_singleton.mp hw]; exact ⟨h0, h1, hv⟩
  · rcases List.mem_append.mp hw with hw | hw
    · exact h.dv w hw
    · rw [Option.some.inj (List.mem_singleton.mp hw)]; exact ⟨h0, h1, hv⟩
  · have := h.wl
    simp only [DM.write, List.length_append, List.length_singleton]; omega
  · have := h.dl
    simp only [DM.write, List.length_append, List.length_singleton]; omega
theorem DOk.flush {n m : Nat} {D : DM} (h : DOk n m D) : DOk n (m + 1) D.flush := by
  refine ⟨h.n1, h.n2, h.fl, (putAll_length _ _).trans h.sl, h.fv, fun v hv => ?_, fun w hw => by simp [DM.flush] at hw, fun w hw => ?_, Nat.zero_le _, ?_⟩
  · rcases putAll_mem hv with hv | ⟨w, hw, rfl⟩
    · exact h.sv v hv
    · exact (h.wv w hw).2.2
  · rcases List.mem_append.mp hw with hw | hw
    · exact h.dv w hw
    · exact nomatch List.mem_singleton.mp hw
  · have := h.dl
    simp only [DM.flush, List.length_append, List.length_singleton]; omega
theorem DOk.mono {n m m' : Nat} {D : DM} (h : DOk n m D) (l : m ≤ m') : DOk n m' D := ⟨h.n1, h.n2, h.fl, h.sl, h.fv, h.sv, h.wv, h.dv, h.wl, Nat.le_trans h.dl l⟩
theorem lastW_cases {ws : List (Int × PyData)} {b : Int} {d : PyData} : lastW ws b d = d ∨ ∃ w ∈ ws, w.1 = b ∧ lastW ws b d = w.2 := by
  unfold lastW
  induction ws generalizing d with
  | nil => exact .inl rfl
  | cons w ws ih =>
    rw [List.foldl_cons]
    rcases ih (d := if w.1 = b then w.2 else d) with h | ⟨u, hu, e1, e2⟩
    · rw [h]
      by_cases hb : w.1 = b
      · rw [if_pos hb]; exact .inr ⟨w, List.mem_cons_self, hb, rfl⟩
      · rw [if_neg hb]; exact .inl rfl
    · exact .inr ⟨u, List.mem_cons_of_mem _ hu, e1, e2⟩
theorem DOk.read {n m : Nat} {D : DM} {b : Int} (h : DOk n m D) (h0 : 0 ≤ b) (h1 : b < n) : blockB (D.read b) = true := by
  unfold DM.read
  rcases lastW_cases (ws := D.writes) (b := b) (d := D.safe.getD b.toNat .none) with e | ⟨w, hw, _, e⟩
  · rw [e]
    have hl : b.toNat < D.safe.length := by rw [h.sl]; omega
    rw [List.getD_eq_getElem?_getD, List.getElem?_eq_getElem hl]
    exact h.sv _ (List.getElem_mem hl)
  · rw [e]; exact (h.wv w hw).2.2
/-! the disk on the heap -/
def diskF (l1 l2 l3 l4 : Addr) : List (Str × V) := [("first", .ref l1), ("safe", .ref l2), ("writes", .ref l3), ("deeds", .ref l4)]
structure DiskAt (K : PySem.W.Frag) (C : Addr) (H : Hp) (d : Addr) (fd : List Addr) (n m : Nat) (D : DM) : Prop where
  ok : DOk n m D
  ex : ∃ dx l1 l2 l3 l4 x1 x2 x3 x4, fd = [d, l1, l2, l3, l4] ∧ [d, l1, l2, l3, l4].Nodup ∧ H d = some (.ins C dx (diskF l1 l2 l3 l4)) ∧ H l1 = some (.lst x1) ∧ H l2 = some (.lst x2) ∧ H l3 = some (.lst x3) ∧ H l4 = some (.lst x4) ∧
    DnAll K [] H x1 D.first ∧ DnAll K [] H x2 D.safe ∧ DnAll K [] H x3 (D.writes.map dWr) ∧ DnAll K [] H x4 (D.deeds.map dEv)
section
variable {K : PySem.W.Frag} {C : Addr} {H H' : Hp} {d : Addr} {fd T : List Addr} {n m : Nat} {D : DM}
theorem DOk.nl1 (h : DOk n m D) : noLs D.first = true := noLs_all.mpr fun v hv => blockB_nol (h.fv v hv)
theorem DOk.nl2 (h : DOk n m D) : noLs D.safe = true := noLs_all.mpr fun v hv => blockB_nol (h.sv v hv)
theorem nol_dWr {w : Int × PyData} (h : noL w.2 = true) : noL (dWr w) = true := by
  show (true && (noL w.2 && true)) = true
  rw [h]; rfl
theorem nol_dEv {w : Option (Int × PyData)} (h : ∀ u, w = some u → noL u.2 = true) : noL (dEv w) = true := by
  cases w with
  | none => rfl
  | some u =>
    show (true && (true && (noL u.2 && true))) = true
    rw [h u rfl]; rfl
theorem DOk.nl3 (h : DOk n m D) : noLs (D.writes.map dWr) = true := noLs_map fun w hw => nol_dWr (blockB_nol (h.wv w hw).2.2)
theorem DOk.nl4 (h : DOk n m D) : noLs (D.deeds.map dEv) = true := noLs_map fun w hw => nol_dEv fun u e => blockB_nol (h.dv u (e ▸ hw)).2.2
theorem DiskAt.but (h : DiskAt K C H d fd n m D) (b : But T H H') (nd : Dj fd T) : DiskAt K C H' d fd n m D := by
  obtain ⟨ok, dx, l1, l2, l3, l4, x1, x2, x3, x4, rfl, hnd, h0, h1, h2, h3, h4, v1, v2, v3, v4⟩ := h
  refine ⟨ok, dx, l1, l2, l3, l4, x1, x2, x3, x4, rfl, hnd, b.at h0 (nd _ (by simp)), b.at h1 (nd _ (by simp)), b.at h2 (nd _ (by simp)), b.at h3 (nd _ (by simp)), b.at h4 (nd _ (by simp)),
    v1.nlb ok.nl1 b, v2.nlb ok.nl2 b, v3.nlb ok.nl3 b, v4.nlb ok.nl4 b⟩
theorem DiskAt.same (h : DiskAt K C H d fd n m D) (b : Same H H') : DiskAt K C H' d fd n m D := h.but (But.of_same (S := []) b) Dj.nil
theorem DiskAt.live (h : DiskAt K C H d fd n m D) : Live fd H := by
  obtain ⟨ok, dx, l1, l2, l3, l4, x1, x2, x3, x4, rfl, hnd, h0, h1, h2, h3, h4, v1, v2, v3, v4⟩ := h
  exact .cons h0 (.cons h1 (.cons h2 (.cons h3 (.cons h4 .nil))))
theorem DiskAt.mono {m' : Nat} (h : DiskAt K C H d fd n m D) (l : m ≤ m') : DiskAt K C H d fd n m' D := ⟨h.ok.mono l, h.ex⟩
end
end J

set_option Elab.async false
set_option linter.all false
set_option maxRecDepth 100000
set_option maxHeartbeats 4000000
namespace J
open PySem L2 PyProof.Rows
/-! ### records -/
inductive Rc where
  | commit
  | revoke (hs : List Int)
  | desc (hs : List Int)
  | copy (v : PyData)
def dHs (hs : List Int) : PyData := .tuple (hs.map .int)
def rcD (num : Int) : Rc → PyData
  | .commit => .tuple [.str "commit", .int num]
  | .revoke hs => .tuple [.str "revoke", .int num, dHs hs]
  | .desc hs => .tuple [.str "descriptor", .int num, dHs hs]
  | .copy v => .tuple [.str "copy", .int num, v]
def ascB : List Int → Bool
  | [] => true
  | [_] => true
  | a :: b :: r => decide (a < b) && ascB (b :: r)
/-- is_group -/
def groupB : PyData → Bool
  | .tuple ds => decide (1 ≤ ds.length) && decide (ds.length ≤ 8) && (ds.all (fun d => betB d 0 31) && ((ds.zip (ds.drop 1)).all fun q => match q with
      | (.int a, .int b) => decide (a < b)
      | _ => false))
  | _ => false
def intsOf : List PyData → List Int
  | [] => []
  | .int i :: r => i :: intsOf r
  | _ :: r => intsOf r
theorem intsOf_map : ∀ {ds : List PyData}, (ds.all fun d => betB d 0 31) = true → ds = (intsOf ds).map .int
  | [], _ => rfl
  | .int i :: r, h => by
    rw [List.all_cons, Bool.and_eq_true] at h
    show PyData.int i :: r = .int i :: (intsOf r).map .int
    rw [← intsOf_map h.2]
  | .none :: _, h => by simp [betB] at h
  | .bool _ :: _, h => by simp [betB] at h
  | .str _ :: _, h => by simp [betB] at h
  | .list _ :: _, h => by simp [betB] at h
  | .tuple _ :: _, h => by simp [betB] at h
  | .dict _ :: _, h => by simp [betB] at h
/-- what stands in a slot, read as a record of the number -/
def parse (num : Int) (d : PyData) : Option Rc :=
  match d with
  | .tuple [k, n] => if PyData.eqv n (.int num) && intB n && PyData.eqv k (.str "commit") then some .commit else none
  | .tuple [k, n, x] =>
    if PyData.eqv n (.int num) && intB n then
      if PyData.eqv k (.str "copy") then some (.copy x)
      else if PyData.eqv k (.str "revoke") && groupB x then (match x with | .tuple ds => some (.revoke (intsOf ds)) | _ => none)
      else if PyData.eqv k (.str "descriptor") && groupB x then (match x with | .tuple ds => some (.desc (intsOf ds)) | _ => none)
      else none
    else none
  | _ => none
theorem eqv_int {n : PyData} {num : Int} (h : (PyData.eqv n (.int num) && intB n) = true) : n = .int num := by
  rw [Bool.and_eq_true] at h
  cases n <;> simp_all [intB, PyData.eqv]
theorem eqv_str {k : PyData} {s : Str} : PyData.eqv k (.str s) = true ↔ k = .str s := by
  cases k <;> simp [PyData.eqv]
theorem parse_some {num : Int} {d : PyData} {r : Rc} (h : parse num d = some r) : d = rcD num r := by
  unfold parse at h
  split at h
  · split at h
    · rename_i hc
      rw [Bool.and_eq_true] at hc
      cases h
      rw [eqv_int hc.1, eqv_str.mp hc.2]; rfl
    · cases h
  · split at h
    · rename_i hc
      rw [eqv_int hc]
      split at h
      · rename_i h1
        cases h
        rw [eqv_str.mp h1]; rfl
      · split at h
        · rename_i h1
          rw [Bool.and_eq_true] at h1
          split at h
          · rename_i ds
            cases h
            have hg := h1.2
            unfold groupB at hg
            simp only [Bool.and_eq_true] at hg
            rw [eqv_str.mp h1.1]
            show _ = PyData.tuple [.str "revoke", .int num, .tuple ((intsOf ds).map .int)]
            rw [← intsOf_map hg.2.1]
          · cases h
        · split at h
          · rename_i h1
            rw [Bool.and_eq_true] at h1
            split at h
            · rename_i ds hn
              cases h
              have hg := h1.2
              unfold groupB at hg
              simp only [Bool.and_eq_true] at hg
              rw [eqv_str.mp h1.1]
              show _ = PyData.tuple [.str "descriptor", .int num, .tuple ((intsOf ds).map .int)]
              rw [← intsOf_map hg.2.1]
            · cases h
          · cases h
    · cases h
  · cases h
/-! ### transactions in the ring: rec tells what stands in a slot, of s slots -/
section
variable (s : Nat) (rec : Nat → Option Rc)
def takeC : List Int → Nat → Nat → List (Int × PyData) → Option (Nat × Nat × List (Int × PyData))
  | [], p, l, cs => some (p, l, cs)
  | h :: hs, p, l, cs => if l = 0 then none else match rec p with
    | some (.copy v) => takeC hs ((p + 1) % s) (l - 1) (cs ++ [(h, v)])
    | _ => none
def complete : Nat → Nat → Nat → List (Int × PyData) → List Int → Option (List (Int × PyData) × List Int × Nat)
  | 0, _, _, _, _ => none
  | fuel + 1, p, l, cs, rs => if l = 0 then none else match rec p with
    | some .commit => some (cs, rs, (p + 1) % s)
    | some (.revoke hs) => complete fuel ((p + 1) % s) (l - 1) cs (rs ++ hs)
    | some (.desc hs) => (match takeC s rec hs ((p + 1) % s) (l - 1) cs with
      | some (p', l', cs') => complete fuel p' l' cs' rs
      | none => none)
    | _ => none
end
def DM.rc (D : DM) (num : Int) (slot : Nat) : Option Rc := parse num (D.read (1 + (slot : Int)))
def txAt (s : Nat) (D : DM) (num : Int) (slot : Nat) : Option (List (Int × PyData) × List Int × Nat) := complete s (D.rc num) (s + 1) slot s [] []
/-- scan: the transactions, the next number, the next slot -/
def scanGo (s : Nat) (D : DM) : Nat → Int → Nat → Nat → List (Int × List (Int × PyData) × List Int) → List (Int × List (Int × PyData) × List Int) × Int × Nat
  | 0, num, slot, _, found => (found, num, slot)
  | fuel + 1, num, slot, left, found => match txAt s D num slot with
    | none => (found, num, slot)
    | some (cs, rs, next) =>
      let taken := ((next : Int) - slot - 1) % s + 1
      if taken > left then (found, num, slot) else scanGo s D fuel (num + 1) next (left - taken.toNat) (found ++ [(num, cs, rs)])
end J

set_option Elab.async false
set_option linter.all false
set_option maxRecDepth 100000
set_option maxHeartbeats 4000000
namespace J
open PySem PySem.Spec L2 PyProof.Rows
/-! ### list += tuple -/
section
variable {M : Model} {A : Around} {E : Value → Shared → Prop} {s : Shared} {x y : Value}
theorem bin1_neither {T U nm : String} {Q : Option Value → Shared → Prop} (tx : s.TypeIs x T) (ty : s.TypeIs y U) (ne : (Value.type T == Value.type U) = false)
    (nT : fillsNumberSlot (.type T) nm = pure false) (nU : fillsNumberSlot (.type U) nm = pure false) (q : Q none s) : wpAny M A (binaryOp1 nm x y) Q E s := by
  simp only [binaryOp1]
  refine wpAny_bind (wpAny_typeOf tx ?_)
  refine wpAny_bind (wpAny_typeOf ty ?_)
  refine wpAny_bind (wpAny_of_eq nT ?_)
  rw [ne]
  simp only [Bool.false_eq_true, if_false]
  refine wpAny_bind (wpAny_of_eq nU ?_)
  simp only [Bool.false_and, Bool.false_eq_true, if_false, pure_bind, beq_self_eq_true, if_true]
  exact wpAny_pure q
theorem iadd_listTup {Q : Value → Shared → Prop} (tx : s.TypeIs x "list") (ty : s.TypeIs y "tuple") (q : wpAny M A (call (.builtin "list.__iadd__") [x, y]) Q E s) : wpAny M A (inplaceOp .Add x y) Q E s := by
  have lk : typeLookup (.type "list") (dunderI "add") = pure (some (.builtin "list.__iadd__")) := F.slot_list_iadd.lookup
  have sq : isSeqSlot (some (.builtin "list.__iadd__")) = true := by decide +kernel
  have f0 : fillsInplaceSlot (.type "list") "add" (Operator.Add == .Add) = pure false := by
    unfold fillsInplaceSlot
    simp only [lk, pure_bind, sq]
    rfl
  unfold inplaceOp
  refine wpAny_holding (wpAny_bind (wpAny_typeOf tx (wpAny_bind ?_)))
  refine wpAny_of_eq f0 ?_
  simp only [Bool.false_eq_true, if_false]
  refine wpAny_bind (bin1_neither tx ty (by decide +kernel) noFill_list_add noFill_tuple_add ?_)
  refine wpAny_bind (wpAny_of_eq (PySem.seqSlot_of lk sq) ?_)
  exact wpAny_bind (wpAny_rule q)
end
def rExtT (K : PySem.W.Frag) : R2 := fun x y H Q => ∃ l b xs ys, x = .ref l ∧ y = .ref b ∧ H l = some (.lst xs) ∧ SqT K H b ys ∧ xs.length + ys.length ≤ sizeLine ∧ Q (.ref l) (upd H l (.lst (xs ++ ys)))
section
variable {X : Cx} {K : PySem.W.Frag}
theorem iop_extT (e : X.K = K := by rfl) : OpR X (inplaceOp .Add) (rExtT K) := by
  subst e
  rintro pins s σ H x y v u Q I rx ry ⟨l, b, xs, ys, rfl, rfl, hl, hb, hz, q⟩
  cases rx
  cases ry
  obtain ⟨z1, its, n, r1, e1, g1⟩ := I.lstM hl
  obtain ⟨jts, r2, ⟨o, g2, c2, m, d2⟩, z2⟩ := I.tuple hb
  have k1 := r1.length
  have k2 := r2.length
  have ty : s.TypeIs (.ref b) "tuple" := ⟨o, g2, c2⟩
  refine iadd_listTup ⟨_, g1, rfl⟩ ty ?_
  refine wpAny_call_entry F.slot_list_iadd ⟨_, g1, rfl⟩ F.entry_list_iadd ?_ (F.args_list_iadd_2 _ _)
  have nl : Builtin.List.listTooLong (its.toArray.size + jts.toArray.size) = false := notLongL (by rw [List.size_toArray, List.size_toArray]; omega)
  show wpAny _ _ (Builtin.List.listExtendWith (.ref l) (.ref b) (.ref l)) _ _ _
  unfold Builtin.List.listExtendWith
  refine wpAny_bind (wpAny_typeOf ty ?_)
  have cnd : (Builtin.List.listSameRef (.ref l) (.ref b) || Value.type "tuple" == Value.type "list" || Value.type "tuple" == Value.type "tuple") = true := by simp
  rw [if_pos cnd]
  refine wpAny_bind (listItems_at g2 d2 ?_)
  refine wpAny_bind (listItems_at g1 rfl ?_)
  rw [nl, Bool.and_false]
  simp only [Bool.false_eq_true, if_false]
  refine wpAny_bind (listUpdate_at g1 rfl ?_ (by rw [List.size_toArray]; omega) (by rw [Array.size_append, List.size_toArray, List.size_toArray]; omega))
  refine wpAny_pure ⟨.ref l, rfl, .ref l, _, I.lset (its' := its ++ jts) (t' := s.toks) hl g1 (by simp) (r1.append r2) ?_, rfl, q⟩
  rw [List.length_append]; exact hz
theorem ip_addT (e : X.K = K := by rfl) : PIp X .Add (fun x y H Q => rIadd x y H Q ∨ rExtT K x y H Q) := by
  subst e
  exact OpR.or (f := inplaceOp .Add) ip_addA iop_extT
end
def rIaddT (K : PySem.W.Frag) : R2 := fun x y H Q => rIadd x y H Q ∨ rExtT K x y H Q
theorem ip_addTA {X : Cx} {K : PySem.W.Frag} (e : X.K = K := by rfl) : PIp X .Add (rIaddT K) := ip_addT e
section
variable {K : PySem.W.Frag} {H : Hp} {Q : VK} {l p : Addr} {xs ys : List V}
theorem r_extT (h : H l = some (.lst xs)) (h' : SqT K H p ys) (c : xs.length + ys.length ≤ sizeLine) (k : ∀ H', But [l] H H' → H' l = some (.lst (xs ++ ys)) → Q (.ref l) H') : rIaddT K (.ref l) (.ref p) H Q :=
  .inr ⟨l, p, xs, ys, rfl, rfl, h, h', c, k _ (But.write h (fun z => z) (by simp)) upd_same⟩
theorem r_extLT (h : H l = some (.lst xs)) (h' : H p = some (.lst ys)) (c : xs.length + ys.length ≤ sizeLine) (k : ∀ H', But [l] H H' → H' l = some (.lst (xs ++ ys)) → Q (.ref l) H') : rIaddT K (.ref l) (.ref p) H Q :=
  .inl (r_ext h h' c k)
end
/-! ### while True -/
theorem whileT {K : PySem.W.Frag} {tb : TS} {D : Ends} {σ : L2.St} {H : Hp} {m0 : Nat} (Pv : Nat → L2.St → Hp → Prop) (h0 : Pv m0 σ H)
    (hs : ∀ m σ H, Pv m σ H → tb { D with nx := fun σ' H' => ∃ m', m' < m ∧ Pv m' σ' H', ct := fun σ' H' => ∃ m', m' < m ∧ Pv m' σ' H', bk := D.nx } σ H) : tWhile (tTruA K (tC (.bl true))) tb D σ H := by
  refine ⟨Pv, ⟨m0, h0⟩, fun m σ H p => ?_⟩
  refine ⟨true, rfl, ?_⟩
  dsimp only
  rw [if_pos rfl]
  exact ⟨fun σ' H' => ∃ m', m' < m ∧ Pv m' σ' H', fun _ _ h => h, hs m σ H p⟩
theorem ascInts_len {x : PyData} {ds : List PyData} (h : groupB x = true) (e : x = .tuple ds) : (intsOf ds).length ≤ 8 := by
  subst e
  unfold groupB at h
  simp only [Bool.and_eq_true, decide_eq_true_iff] at h
  have := intsOf_map h.2.1
  have e2 : ds.length = (intsOf ds).length := by
    conv => lhs; rw [this]
    rw [List.length_map]
  omega
theorem parse_len {num : Int} {d : PyData} {hs : List Int} (h : parse num d = some (.revoke hs) ∨ parse num d = some (.desc hs)) : hs.length ≤ 8 := by
  have hd : d = rcD num (.revoke hs) ∨ d = rcD num (.desc hs) := h.imp parse_some parse_some
  rcases h with h | h
  · have e := parse_some h
    subst e
    have e2 : parse num (rcD num (.revoke hs)) = if (PyData.eqv (.int num) (.int num) && intB (.int num)) = true then (if groupB (dHs hs) = true then some (.revoke (intsOf (hs.map .int))) else none) else none := by
      unfold parse rcD dHs
      rfl
    rw [e2] at h
    split at h
    · split at h
      · rename_i h1 h2
        have e3 := Option.some.inj h
        have e4 : intsOf (hs.map .int) = hs := by injection e3
        rw [← e4]
        exact ascInts_len h2 rfl
      · cases h
    · cases h
  · have e := parse_some h
    subst e
    have e2 : parse num (rcD num (.desc hs)) = if (PyData.eqv (.int num) (.int num) && intB (.int num)) = true then (if groupB (dHs hs) = true then some (.desc (intsOf (hs.map .int))) else none) else none := by
      unfold parse rcD dHs
      rfl
    rw [e2] at h
    split at h
    · split at h
      · rename_i h1 h2
        have e3 := Option.some.inj h
        have e4 : intsOf (hs.map .int) = hs := by injection e3
        rw [← e4]
        exact ascInts_len h2 rfl
      · cases h
    · cases h
end J

set_option Elab.async false
set_option linter.all false
set_option maxRecDepth 100000
set_option maxHeartbeats 4000000
namespace J
open PySem L2 PyProof.Rows
/-! ### range(0, n, 8) -/
section
variable {σ : L2.St} {H : Hp} {g : TG} {ts : TS} {D : Ends}
def ForR3 (g : TG) (ts : TS) (D : Ends) (σ : L2.St) (vs : List V) (H : Hp) : Prop :=
  ∃ (i j c : Int) (n : Nat), vs = [.int i, .int j, .int c] ∧ RgC i j c n ∧ ∃ W : Nat → Nat → L2.St → Hp → Prop, (∃ m, W 0 m σ H) ∧ ∀ k m σ H, W k m σ H →
    ((Itc i c n).stop k H ∧ D.nx σ H) ∨ ((Itc i c n).go k H ∧ ∃ N : L2.St → Hp → Prop, (∀ σ' H', N σ' H' → ∃ m', m' < m ∧ W (k + 1) m' σ' H') ∧
      ∀ x H', (Itc i c n).yld k H x H' → Turn g ts D N x σ H')
theorem r_forR3 {ta : TA} (k : ta σ H fun vs H1 => ForR3 g ts D σ vs H1) : tFor (iRng3 ta) g ts D σ H := k
theorem fitsL {x : Int} (h0 : 0 ≤ x) (h1 : x < 1000000) : Builtin.Range.rangeFitsLong x = true := by
  unfold Builtin.Range.rangeFitsLong
  simp only [Bool.and_eq_true, decide_eq_true_iff]
  constructor <;> omega
theorem rg8 {n : Nat} (h : n ≤ 100000) : RgC 0 n 8 ((n + 7) / 8) := by
  have e : Builtin.Range.rangeSize 0 (n : Int) 8 = (((n + 7) / 8 : Nat) : Int) := by
    unfold Builtin.Range.rangeSize
    rw [if_pos (by decide)]
    split
    · omega
    · omega
  refine ⟨by decide, by decide, ?_, e⟩
  unfold Builtin.Range.small
  rw [e, fitsL (x := 0) (by omega) (by omega), fitsL (x := (n : Int)) (by omega) (by omega), fitsL (x := 8) (by omega) (by omega), fitsL (x := (((n + 7) / 8 : Nat) : Int)) (by omega) (by omega), if_pos (by decide), fitsL (by omega) (by omega), Bool.or_true]
  rfl
theorem forR8 {n : Nat} (h : n ≤ 100000) (Pv : Nat → L2.St → Hp → Prop) (h0 : Pv 0 σ H)
    (hs : ∀ (i : Nat) σ H, 8 * i < n → Pv i σ H → Turn g ts D (Pv (i + 1)) (.int ((8 * i : Nat) : Int)) σ H) (hd : ∀ σ H, Pv ((n + 7) / 8) σ H → D.nx σ H) : ForR3 g ts D σ [.int 0, .int n, .int 8] H := by
  refine ⟨0, n, 8, (n + 7) / 8, rfl, rg8 h, fun i m σ H => m = (n + 7) / 8 - i ∧ i ≤ (n + 7) / 8 ∧ Pv i σ H, ⟨_, rfl, Nat.zero_le _, h0⟩, ?_⟩
  rintro i m σ H ⟨rfl, hi, p⟩
  by_cases hlt : i < (n + 7) / 8
  · refine .inr ⟨hlt, Pv (i + 1), fun σ' H' p' => ⟨_, by omega, rfl, hlt, p'⟩, fun x H' y => ?_⟩
    obtain ⟨rfl, rfl⟩ := y
    have e : (0 : Int) + (i : Nat) * 8 = ((8 * i : Nat) : Int) := by omega
    rw [e]
    exact hs i σ _ (by omega) p
  · have e : i = (n + 7) / 8 := by omega
    subst e
    exact .inl ⟨Nat.le_refl _, hd σ H p⟩
end
/-! ### values deeper down -/
mutual
theorem valB_up : ∀ (d : PyData) (k j : Nat), valB d k = true → d.depth + j ≤ 8 → valB d j = true
  | .tuple xs, k, j, h, hd => by
    have h2 : (decide (k < 8) && valsB xs (k + 1)) = true := h
    rw [Bool.and_eq_true, decide_eq_true_iff] at h2
    have e : (PyData.tuple xs).depth = PyData.depthAll xs + 1 := rfl
    rw [e] at hd
    show (decide (j < 8) && valsB xs (j + 1)) = true
    rw [decide_eq_true (by omega), Bool.true_and]
    exact valsB_up xs (k + 1) (j + 1) h2.2 (by omega)
  | .int _, _, _, _, _ => rfl
  | .str _, _, _, _, _ => rfl
  | .none, _, _, h, _ => by simp [valB] at h
  | .bool _, _, _, h, _ => by simp [valB] at h
  | .list _, _, _, h, _ => by simp [valB] at h
  | .dict _, _, _, h, _ => by simp [valB] at h
theorem valsB_up : ∀ (ds : List PyData) (k j : Nat), valsB ds k = true → PyData.depthAll ds + j ≤ 8 + 0 → valsB ds j = true
  | [], _, _, _, _ => rfl
  | x :: xs, k, j, h, hd => by
    have h2 : (valB x k && valsB xs k) = true := h
    rw [Bool.and_eq_true] at h2
    have e : PyData.depthAll (x :: xs) = max x.depth (PyData.depthAll xs) := rfl
    rw [e] at hd
    show (valB x j && valsB xs j) = true
    rw [valB_up x k j h2.1 (by omega), valsB_up xs k j h2.2 (by omega)]; rfl
end
/-- a record of a right value is a right block -/
theorem block_rcD {num : Int} {rc : Rc} (hh : ∀ hs, rc = .revoke hs ∨ rc = .desc hs → hs.length ≤ 1000000) (hv : ∀ v, rc = .copy v → blockB v = true ∧ v.depth ≤ 7) : blockB (rcD num rc) = true := by
  have hiv : ∀ (hs : List Int) (k : Nat), valsB (hs.map .int) k = true := fun hs k => by
    rw [valsB_all, List.all_map]; simp [valB]
  have slm : ∀ hs : List Int, slims (hs.map .int) = true := by
    intro hs
    induction hs with
    | nil => rfl
    | cons a b ih =>
      show (slim (.int a) && slims (b.map .int)) = true
      rw [ih]; rfl
  have grp : ∀ (x : Str) (hs : List Int), PyData.strOk x = true → hs.length ≤ 1000000 → blockB (.tuple [.str x, .int num, dHs hs]) = true := by
    intro x hs hx hl
    unfold blockB
    have e1 : valB (.tuple [.str x, .int num, dHs hs]) 0 = valsB (hs.map .int) 2 := by
      show (decide (0 < 8) && (true && (true && ((decide (1 < 8) && valsB (hs.map .int) 2) && true)))) = _
      simp
    have e2 : slim (.tuple [.str x, .int num, dHs hs]) = (decide ((hs.map PyData.int).length ≤ 1000000) && slims (hs.map .int)) := by
      show (decide (3 ≤ 1000000) && (true && (true && ((decide ((hs.map PyData.int).length ≤ 1000000) && slims (hs.map .int)) && true)))) = _
      simp
    have e3 : (PyData.tuple [.str x, .int num, dHs hs]).canLay0 = (PyData.strOk x && PyData.canLayAll0 (hs.map .int)) := by
      show (PyData.strOk x && (true && (PyData.canLayAll0 (hs.map .int) && true))) = _
      simp
    rw [e1, e2, e3, hiv, slm, layInts, hx, List.length_map, decide_eq_true hl]; rfl
  cases rc with
  | commit =>
    show blockB (.tuple [.str "commit", .int num]) = true
    unfold blockB
    have e3 : (PyData.tuple [.str "commit", .int num]).canLay0 = (PyData.strOk "commit" && true) := rfl
    rw [e3, show PyData.strOk "commit" = true by decide +kernel]; rfl
  | revoke hs => exact grp "revoke" hs (by decide +kernel) (hh hs (.inl rfl))
  | desc hs => exact grp "descriptor" hs (by decide +kernel) (hh hs (.inr rfl))
  | copy v =>
    obtain ⟨h1, h2⟩ := hv v rfl
    show blockB (.tuple [.str "copy", .int num, v]) = true
    unfold blockB
    have e1 : valB (.tuple [.str "copy", .int num, v]) 0 = valB v 1 := by
      show (decide (0 < 8) && (true && (true && (valB v 1 && true)))) = _
      simp
    have e2 : slim (.tuple [.str "copy", .int num, v]) = slim v := by
      show (decide (3 ≤ 1000000) && (true && (true && (slim v && true)))) = _
      simp
    have e3 : (PyData.tuple [.str "copy", .int num, v]).canLay0 = (PyData.strOk "copy" && v.canLay0) := by
      show (PyData.strOk "copy" && (true && (v.canLay0 && true))) = _
      simp
    rw [e1, e2, e3, valB_up v 0 1 (blockB_val h1) (by omega), blockB_slim h1, blockB_lay h1, show PyData.strOk "copy" = true by decide +kernel]; rfl
end J

set_option Elab.async false
set_option linter.all false
set_option maxRecDepth 100000
set_option maxHeartbeats 4000000
namespace J
open PySem L2 PyProof.Rows
/-! ### further rules -/
section
variable {σ : L2.St} {H : Hp} {K : PySem.W.Frag} {Q : VK} {p q : Addr} {xs ys : List V}
/-- what follows a statement is shown once, for all ways out of it -/
theorem r_seqCut {t u : TS} {D : Ends} (W : L2.St → Hp → Prop) (h1 : ∀ σ' H', W σ' H' → u D σ' H') (h2 : (∀ σ' H', W σ' H' → u D σ' H') → t { D with nx := u D } σ H) : tSeq t u D σ H := h2 h1
/-- tuple + tuple -/
theorem r_addT (h1 : SqT K H p xs) (h2 : SqT K H q ys) (c : xs.length + ys.length ≤ sizeLine) (k : ∀ l H', Same H H' → SqT K H' l (xs ++ ys) → Q (.ref l) H') : rAddA K (.ref p) (.ref q) H Q := by
  refine .inr (.inr (.inr ⟨p, q, xs, ys, rfl, rfl, h1, h2, c, fun e => ?_, fun _ e => ?_, fun _ _ l hl => ?_⟩))
  · subst e
    exact k q H (fun _ _ e => e) h2
  · subst e
    exact k p H (fun _ _ e => e) (by rw [List.append_nil]; exact h1)
  · exact k l _ (But.new (S := []) hl).same (SqT.of upd_same)
/-- xs[:-1] -/
theorem cut_last {xs : List V} : cutV xs none (some (-1)) = xs.take (xs.length - 1) := by
  unfold cutV
  rw [HT.sIx_none, List.drop_zero, Nat.sub_zero]
  have e : HT.sIx xs.length xs.length (some (-1)) = xs.length - 1 := by
    show (if (-1 : Int) < 0 then ((-1 : Int) + (xs.length : Int)).toNat else min (-1 : Int).toNat xs.length) = _
    rw [if_pos (by decide)]; omega
  rw [e]
end
/-! ### what data rests on -/
theorem Dn.support {K : PySem.W.Frag} {S : List Addr} {H : Hp} {v : V} {d : PyData} (h : Dn K S H v d) : ∃ SL : List Addr, Live SL H ∧ ∀ (T : List Addr) (H' : Hp), But T H H' → Dj SL T → Dn K [] H' v d := by
  refine Dn.rec (motive_1 := fun v d _ => ∃ SL : List Addr, Live SL H ∧ ∀ (T : List Addr) (H' : Hp), But T H H' → Dj SL T → Dn K [] H' v d)
    (motive_2 := fun vs ds _ => ∃ SL : List Addr, Live SL H ∧ ∀ (T : List Addr) (H' : Hp), But T H H' → Dj SL T → DnAll K [] H' vs ds) ?_ ?_ ?_ ?_ ?_ ?_ ?_ ?_ h
  · exact ⟨[], .nil, fun _ _ _ _ => .non⟩
  · exact fun b => ⟨[], .nil, fun _ _ _ _ => .bl b⟩
  · exact fun i => ⟨[], .nil, fun _ _ _ _ => .int i⟩
  · exact fun x => ⟨[], .nil, fun _ _ _ _ => .str x⟩
  · rintro a xs ds h1 h2 _ ⟨SL, l, k⟩
    exact ⟨a :: SL, .cons h1 l, fun T H' b dj => .lst (b.at h1 (dj a List.mem_cons_self)) List.not_mem_nil (k T H' b fun s hs => dj s (List.mem_cons_of_mem _ hs))⟩
  · rintro a xs ds h1 _ ⟨SL, l, k⟩
    exact ⟨SL, l, fun T H' b dj => .tup (b.sqT h1) (k T H' b dj)⟩
  · exact ⟨[], .nil, fun _ _ _ _ => .nil⟩
  · rintro v vs d ds _ _ ⟨S1, l1, k1⟩ ⟨S2, l2, k2⟩
    refine ⟨S1 ++ S2, fun s hs => (List.mem_append.mp hs).elim (l1 s) (l2 s), fun T H' b dj => .cons (k1 T H' b fun s hs => dj s (List.mem_append_left _ hs)) (k2 T H' b fun s hs => dj s (List.mem_append_right _ hs))⟩
theorem DnAll.support {K : PySem.W.Frag} {S : List Addr} {H : Hp} : ∀ {vs : List V} {ds : List PyData}, DnAll K S H vs ds → ∃ SL : List Addr, Live SL H ∧ ∀ (T : List Addr) (H' : Hp), But T H H' → Dj SL T → DnAll K [] H' vs ds
  | _, _, .nil => ⟨[], .nil, fun _ _ _ _ => .nil⟩
  | _, _, .cons h t => by
    obtain ⟨S1, l1, k1⟩ := h.support
    obtain ⟨S2, l2, k2⟩ := DnAll.support t
    refine ⟨S1 ++ S2, fun s hs => (List.mem_append.mp hs).elim (l1 s) (l2 s), fun T H' b dj => .cons (k1 T H' b fun s hs => dj s (List.mem_append_left _ hs)) (k2 T H' b fun s hs => dj s (List.mem_append_right _ hs))⟩
theorem r_reprOk {K : PySem.W.Frag} {S : List Addr} {H : Hp} {Q : VK} {x : V} {d : PyData} {n k : Nat} (h : Dn K S H x d) (o : Ok n k d) (hk : k ≤ 60) (hn : n ≤ 16777216) (q : Q (.str d.shown) H) : rRepr K [x] H Q :=
  r_repr h.dp o.show_ (Nat.le_trans o.dep hk) (sz (Nat.le_trans o.len hn)) q
end J

set_option Elab.async false
set_option linter.all false
set_option maxRecDepth 100000
set_option maxHeartbeats 4000000
namespace J
open PySem PySem.Spec L2 PyProof.Rows
/-! ### sorted(d), d with int keys -/
def rSortedDI : List V → Hp → VK → Prop := fun xs H Q => ∃ (a : Addr) (kvs : List (L2.Key × V)) (ks : List Int), xs = [.ref a] ∧ H a = some (.dK kvs) ∧ kvs.map (·.1) = ks.map Sum.inl ∧ ks.length < 1000 ∧
    ∀ (ys : List Int) (p : Addr), ys.Perm ks → ys.Pairwise (· ≤ ·) → H p = none → Q (.ref p) (upd H p (.lst (ys.map V.int)))
theorem cr_sortedDI {X : Cx} (hcalm : X.calm = true) : CallR X (.builtin "sorted") rSortedDI := by
  intro pins s σ H xs us Q I r q
  obtain ⟨a, kvs, ks, ex, hd, hks, h64, q⟩ := q
  subst ex
  obtain ⟨u, eu, rx⟩ := vals1 r
  subst eu
  cases rx
  obtain ⟨z, lo, vs, rel, dd⟩ := dk_rd I.hok (.inl hd)
  obtain ⟨ep, hat⟩ := dd.dictAt
  have hkeys : vs.map (·.1) = ks.map Sum.inl := rel.keys.symm.trans hks
  have hl : vs.length = ks.length := by
    have e := congrArg List.length hkeys
    rw [List.length_map, List.length_map] at e
    exact e
  have h16 : vs.length ≤ sizeLine := by rw [hl, sizeLine_eq]; omega
  refine Calls.call_function_entry PyProof.Rows.kind_sorted PyProof.Rows.plain_sorted PyProof.Rows.entry_sorted (PyProof.Rows.args_sorted1 _) ?_
  unfold Builtin.«sorted»
  refine wpAny_bind (m := checkCount "sorted" 1 1 _) (wpAny_pure ?_)
  refine wpAny_bind (PySem.W.kdu_collect (A := X.A.in1) (PySem.W.kdl_dict (knd := mixKind X.prog X.w) (kvs := vs) (ep := ep) lo) (I.ok.hd hcalm) hat h16 fun h' tk acc hk hacc => ?_)
  have hal : acc.toList.length = vs.length := by rw [Array.length_toList, hacc.1]
  have rv0 := keys_at (us := acc.toList) (vs := vs) hal fun j v e => by
    obtain ⟨k, x, e1, e2⟩ := hacc.2 j v (by rw [← Array.getElem?_toList]; exact e)
    exact ⟨k, x, e1, e2⟩
  have ek : (vs.map fun p => kV p.1) = ks.map V.int := by
    have e1 : (vs.map fun p => kV p.1) = (vs.map (·.1)).map kV := by rw [List.map_map]; rfl
    rw [e1, hkeys, List.map_map]; rfl
  rw [ek] at rv0
  have hi := rv0.ints
  have I1 : Inv X pins σ H { s with heap := h', toks := tk } := I.kept hk
  refine wpAny_bind (wpAny_newList ?_ (by rw [hal, hl, sizeLine_eq]; omega))
  have hoL : (h'.push (seqObj "list" acc.toList.toArray 0)).get? h'.objs.size = some (seqObj "list" acc.toList.toArray 0) := Heap.get?_push_size _ rfl
  show wpAny _ _ _ _ _ { s with heap := h'.push (seqObj "list" acc.toList.toArray 0), toks := tk }
  refine wpAny_bind (wpAny_holding (wpAny_call_entry PyProof.Rows.slot_list_sort ⟨_, hoL, rfl⟩ PyProof.Rows.entry_list_sort
    (SrtO.list_sort_ord (s := { s with heap := h'.push (seqObj "list" acc.toList.toArray 0), toks := tk }) SrtO.swo_int hoL (by rw [hal, hl, sizeLine_eq]; omega) (fun h2 => SrtO.ints_sortable hi h2) fun out h1 h2 => ⟨_, rfl, ?_⟩)
    (PyProof.Rows.args_list_sort _)))
  obtain ⟨k1, k2, k3⟩ := SrtO.ints_out hi h1 h2
  obtain ⟨e', he'⟩ := PyProof.Rows.sortedHeap_at (vs := acc.toList) (out := out.toArray) hoL
  have hlen : ((out.map SrtO.iv).map V.int).length ≤ sizeLine := by
    rw [List.length_map, k2.length_eq]
    exact Nat.le_trans (Nat.le_of_lt h64) (by decide)
  refine wpAny_pure ⟨_, rfl, .ref h'.objs.size, upd H h'.objs.size (.lst ((out.map SrtO.iv).map V.int)), I1.laid (t' := tk) (fun b u e => ?_) (Nat.le_refl _)
    (show ObjOk X.prog X.w _ _ h'.objs.size (.lst ((out.map SrtO.iv).map V.int)) from ⟨hlen, out, e', vals_of_ints k1, he'⟩), rfl, q _ _ k2 k3 (I1.hok.fresh (Nat.le_refl _))⟩
  have hb : b < h'.objs.size := Heap.lt_size e
  rw [PyProof.Rows.sortedHeap_old (Nat.ne_of_lt hb) (by rw [size_push']; exact Nat.lt_succ_of_lt hb)]
  exact Heap.get?_push_of_some _ e
theorem pt_dead {X : Cx} {e : Expr} : PT X e (fun _ _ _ => False) := ⟨fun _ _ _ _ _ _ h => h.elim⟩
/-- the kept pending writes -/
def DM.keepW (D : DM) (ns : List Nat) : List (Int × PyData) := ns.map fun i => D.writes.getD i (0, .none)
def DM.crash (D : DM) (ns : List Nat) : DM := ⟨putAll (D.keepW ns) D.safe, putAll (D.keepW ns) D.safe, [], []⟩
end J

set_option Elab.async false
set_option linter.all false
set_option maxRecDepth 100000
set_option maxHeartbeats 4000000
namespace J
open PySem L2 PyProof.Rows
/-! ### comprehensions over range(n), list(range(n)) -/
section
variable {σ : L2.St} {H : Hp} {Q : VK} {g : TG} {tt : TT} {te : TE} {vs : List Nat} {j : Int}
def LcR (g : TG) (tt : TT) (te : TE) (vs : List Nat) (σ : L2.St) (Q : VK) (ws : List V) (H : Hp) : Prop :=
  ∃ j : Int, ws = [.int j] ∧ -(2 ^ 62) ≤ j ∧ j < 2 ^ 62 ∧ LcG (Itr 0 j.toNat) g tt te vs σ Q H
theorem r_lcR {ta : TA} (k : ta σ H fun ws H1 => LcR g tt te vs σ Q ws H1) : tLc (iRng1 ta) g tt te vs σ H Q := k
theorem lcR (b : -(2 ^ 62) ≤ j ∧ j < 2 ^ 62) (mk : ∀ l H0, H l = none → Same H H0 → H0 l = some (.lst []) → ∃ Pv : Nat → Hp → Prop, Pv 0 H0 ∧
      (∀ (i : Nat) H, (i : Int) < j → Pv i H → LTurn g tt te vs l (Pv (i + 1)) (.int i) σ H) ∧ ∀ H, Pv j.toNat H → Q (.ref l) H) : LcR g tt te vs σ Q [.int j] H := by
  refine ⟨j, rfl, b.1, b.2, fun l hl => ?_⟩
  obtain ⟨Pv, h0, h2, h3⟩ := mk l _ hl (But.new (S := []) hl).same upd_same
  refine lc_range Pv h0 (fun i H hi p => ?_) h3
  have e : (0 : Int) + (i : Nat) = (i : Nat) := Int.zero_add _
  rw [e]
  exact h2 i H (by omega) p
theorem r_listRg {ta : TE} (k : ta σ H fun x H1 => ∃ n, x = .int n ∧ RgOk 0 n ∧ ∀ q, H1 q = none → Q (.ref q) (upd H1 q (.lst (rgV 0 n)))) : tLstRg (tRg1 ta) σ H Q := k
theorem r_rgN {n : Nat} (c : n ≤ 16777216) (k : ∀ l H', H l = none → Same H H' → H' l = some (.lst ((List.range n).map fun i : Nat => V.int i)) → Q (.ref l) H') :
    RgOk 0 (n : Int) ∧ ∀ q, H q = none → Q (.ref q) (upd H q (.lst (rgV 0 (n : Int)))) := by
  refine ⟨RgOk.of_le (by omega) (by omega) (by omega) (by omega), fun q hq => ?_⟩
  have e : rgV 0 (n : Int) = (List.range n).map fun i : Nat => V.int i := by
    unfold rgV
    rw [Int.sub_zero, Int.toNat_natCast]
    exact List.map_congr_left fun i _ => by rw [Int.zero_add]
  rw [e]
  exact k q _ hq (But.new (S := []) hq).same upd_same
end
/-! ### a disk as it was -/
def DM.ev (D : DM) : Option (Int × PyData) → DM
  | some u => D.write u.1 u.2
  | none => D.flush
def DM.play (D : DM) (es : List (Option (Int × PyData))) : DM := es.foldl DM.ev D
def DM.after (D : DM) (k : Nat) : DM := DM.play ⟨D.first, D.first, [], []⟩ (D.deeds.take k)
end J

set_option Elab.async false
set_option linter.all false
set_option maxRecDepth 100000
set_option maxHeartbeats 4000000
namespace J
open PySem L2 PyProof.Rows
/-! ### a def of a class, called by the class; exceptions with their own __init__ -/
/-- m, a plain def of the class at the module's name x, keeps the promise -/
structure CFn (P : Program) (w : World) (K : PySem.W.Frag) (mg : Str → Option Value) (base : Heap) (CX : CXT) (k : Nat) (x m : Str) (sp : Sp) : Prop where
  ex : ∃ (C f : Addr) (fd : FuncData) (ps : List Str), FnOk P w K mg base CX k f fd ps sp ∧ mg x = some (.ref C) ∧ ClX.CRead K C (.type "type") ∧ PySem.W.findCls K (.ref C) (.type "type") m = some (.val (.ref f)) ∧
    PySem.W.keepIn K (.ref f) = true ∧ Binds K fd ps []
section
variable {X : Cx} {CX : CXT} {k j : Nat} {sp : Sp} {E : L2.St → XK} {x m : Str} {p p2 pos : Pos} {e : Expr} {es : List Expr} {t : TA}
theorem pe_cfn {pl : Sem Bool} (c : CFn X.prog X.w X.K X.mg X.base CX k x m sp) (hr : Room j X.A) (hk : k ≤ j) (hx : ∀ σ, PassesAt CX X σ (E σ)) (ha : PA X (e :: es) t) (hg : Gl X x := by rfl)
    (hdb : (x == ("__debug__" : Str)) = false := by decide)
    (he : starEach (e :: es) X.env = (false, eval e X.env) :: starEach es X.env := by rfl) (hpl : (backTo pos (starEach es X.env)).any (·.1) = false := by rfl)
    (ht : eval (.Call (.Attribute (.Name x p) m p2) (e :: es) [] pos) X.env = (do
      let ov ← eval (.Name x p) X.env
      standAt p2.atName
      let (f, first) ← holding [ov] (getMethod ov m pl)
      callWith pos f first (backTo pos (starEach (e :: es) X.env)) (backToKw pos (keywordEach [] X.env))) := by rfl) :
    PE X (.Call (.Attribute (.Name x p) m p2) (e :: es) [] pos) (tCallS sp E t) := by
  obtain ⟨C, f, fd, ps, F, hm, rd, fc, kp, hb⟩ := c.ex
  refine ⟨fun pins s σ H Q I h => ?_⟩
  refine PySem.W.methodCall_KW (pl := pl) (ld_glob I hg hm ?_ hdb) ht
  refine PySem.W.method_cls I.kIn rd.ga (PySem.W.cls_value I.kIn rd.rd fc rfl ?_)
  refine PySem.W.callWith_K (h₀ := X.base) (first := []) I.ok.mod.kin kp (thn (ha.run pos pins _ σ H _ (I.tok _) h) fun us s1 ⟨vs, H1, I1, r, q⟩ => ⟨I1.kIn, ?_⟩) he hpl
  exact run_fnS F (hr.mono hk) hb (hx σ) I1 r q
end
/-- a class of exceptions with its own __init__ -/
structure Oex (P : Program) (w : World) (K : PySem.W.Frag) (mg : Str → Option Value) (base : Heap) (k : Nat) (x : Str) (C : Addr) (sp : Sp) : Prop where
  ex : ∃ (f : Addr) (fd : FuncData) (ps : List Str), FnOk P w K mg base CX0 k f fd ps sp ∧ OexC K C ∧ PySem.W.findIn K (.ref C) "__init__" = some (some (.ref f)) ∧ PySem.W.typeIn K (.ref f) = some (.type "function") ∧ mg x = some (.ref C) ∧ Binds K fd ps []
section
variable {X : Cx} {k j : Nat} {sp : Sp} {x : Str} {C : Addr} {p pos : Pos} {e : Expr} {es : List Expr} {ta : TA}
theorem pmk_x (c : Oex X.prog X.w X.K X.mg X.base k x C sp) (hr : Room j X.A) (hk : k + 1 ≤ j) (ha : PA X (e :: es) ta) (hg : Gl X x := by rfl)
    (hdb : (x == ("__debug__" : Str)) = false := by decide) (he : starEach (e :: es) X.env = (false, eval e X.env) :: starEach es X.env := by rfl) (hpl : (backTo pos (starEach es X.env)).any (·.1) = false := by rfl) :
    PMk X (.Call (.Name x p) (e :: es) [] pos) (tMkO C sp [] ta) := by
  obtain ⟨f, fd, ps, F, T, iC, tI, hm, hb⟩ := c.ex
  exact pmk_oex T iC tI F (hr.mono hk) hb .nil (fun _ _ _ _ _ _ _ h => h.elim) hg hm ha hdb he hpl
end
/-- what its __init__ leaves: the fields fs of the arguments -/
def spX (K : PySem.W.Frag) (ns : List Str) (fo : List V → Option (List (Str × V))) : Sp := fun vs H Q _ => ∃ (a C : Addr) (ws : List V) (fs : List (Str × V)), vs = .ref a :: ws ∧ fo ws = some fs ∧ OexC K C ∧ (∀ n ∈ ns, PySem.W.findIn K (.ref C) n = some none) ∧ H a = some (exo a C none) ∧
  ∀ d H', H d = none → d ≠ a → H' a = some (exo a C (some d)) → H' d = some (exd d fs) → (∀ b, b ≠ a → b ≠ d → H' b = H b) → Q .non H'
/-- X(e, ..) that is to be raised -/
def MkX (K : PySem.W.Frag) (ns : List Str) (fo : List V → Option (List (Str × V))) (C : Addr) (vs : List V) (H : Hp) (Q : XK) : Prop := vs.length ≤ 1000 ∧ ∃ fs, fo vs = some fs ∧ OexC K C ∧ (∀ n ∈ ns, PySem.W.findIn K (.ref C) n = some none) ∧
  ∀ d H', H d = none → Same H H' → H' d = some (.xd fs) → Q (.ref C) (some d) H'
def MkO (C : Addr) (sp : Sp) (dvs : List V) (vs : List V) (H1 : Hp) (Q : XK) : Prop := vs.length ≤ 1000 ∧ ∀ a, H1 a = none → sp (.ref a :: (vs ++ dvs)) (upd H1 a (exo a C none))
  (fun v H2 => v = .non ∧ ∃ (d : Addr) (fs : List (Str × V)), H2 a = some (exo a C (some d)) ∧ H2 d = some (exd d fs) ∧ H1 d = none ∧ Q (.ref C) (some d) (upd (del H2 a) d (.xd fs))) (fun _ _ _ => False)
theorem r_mkO {C : Addr} {sp : Sp} {dvs : List V} {ta : TA} {σ : L2.St} {H : Hp} {Q : XK} (k : ta σ H fun vs H1 => MkO C sp dvs vs H1 Q) : tMkO C sp dvs ta σ H Q := k
theorem r_mkX {K : PySem.W.Frag} {ns : List Str} {fo : List V → Option (List (Str × V))} {C : Addr} {vs : List V} {H1 : Hp} {Q : XK} (h : MkX K ns fo C vs H1 Q) : MkO C (spX K ns fo) [] vs H1 Q := by
  obtain ⟨hz, fs, hf, T, hn, q⟩ := h
  refine ⟨hz, fun a ha => ⟨a, C, vs, fs, by rw [List.append_nil], hf, T, hn, upd_same, fun d H' hd hda h1 h2 h3 => ⟨rfl, d, fs, h1, h2, ?_, ?_⟩⟩⟩
  · rw [upd_ne hda] at hd; exact hd
  · have hd1 : H1 d = none := by rw [upd_ne hda] at hd; exact hd
    refine q d _ hd1 (fun b o hb => ?_) upd_same
    have nb : b ≠ d := fun z => by rw [z, hd1] at hb; cases hb
    have na : b ≠ a := fun z => by rw [z, ha] at hb; cases hb
    rw [upd_ne nb, del_ne na, h3 b na nb, upd_ne na]; exact hb
/-- self.f = y in such an __init__ -/
def OstAt (K : PySem.W.Frag) (f : Str) (y x : V) (H2 : Hp) (R : Hp → Prop) : Prop := ∃ a C : Addr, x = .ref a ∧ OexC K C ∧ PySem.W.findIn K (.ref C) f = some none ∧
  ((H2 a = some (exo a C none) ∧ ∀ dx, H2 dx = none → dx ≠ a → R (upd (upd H2 dx (exd dx [(f, y)])) a (exo a C (some dx)))) ∨
    ∃ (dx : Addr) (fs : List (Str × V)), H2 a = some (exo a C (some dx)) ∧ H2 dx = some (exd dx fs) ∧ fs.length ≤ 900 ∧ R (upd H2 dx (exd dx ((f, y) :: fs))))
theorem r_ost {K : PySem.W.Frag} {f : Str} {to te : TE} {D : Ends} {σ : L2.St} {H : Hp} (k : te σ H fun y H1 => to σ H1 fun x H2 => OstAt K f y x H2 fun H3 => D.nx σ H3) : tOst K f to te D σ H := k
def VeAt (K : PySem.W.Frag) (vs : List V) (H1 : Hp) (Q : VK) : Prop := ∃ (a C : Addr) (ws : List V), vs = .ref a :: ws ∧ ws.length ≤ 1000 ∧ OexC K C ∧ H1 a = some (exo a C none) ∧ Q .non H1
theorem r_veI {K : PySem.W.Frag} {ta : TA} {σ : L2.St} {H : Hp} {Q : VK} (k : ta σ H fun vs H1 => VeAt K vs H1 Q) : tVeI K ta σ H Q := k
/-- e.f of the caught exception -/
theorem r_xf {a C : Addr} {d : Addr} {f : Str} {te : TE} {σ : L2.St} {H : Hp} {Q : VK} (k : te σ H fun x H1 => x = .ref a ∧ (.ref C : Value) = .ref C ∧ ∃ (dd : Addr) (fs : List (Str × V)) (v : V), some d = some dd ∧ H1 dd = some (.xd fs) ∧ fs.lookup f = some v ∧ Q v H1) : tXf a (.ref C) (some d) C f te σ H Q := k
theorem r_xfAt {a C d : Addr} {fs : List (Str × V)} {f : Str} {v : V} {H1 : Hp} {Q : VK} (h : H1 d = some (.xd fs)) (l : fs.lookup f = some v) (k : Q v H1) :
    V.ref a = .ref a ∧ (.ref C : Value) = .ref C ∧ ∃ (dd : Addr) (fs : List (Str × V)) (v : V), some d = some dd ∧ H1 dd = some (.xd fs) ∧ fs.lookup f = some v ∧ Q v H1 := ⟨rfl, rfl, d, fs, v, rfl, h, l, k⟩
/-! ### comprehensions over range(0, n, 8) -/
section
variable {σ : L2.St} {H : Hp} {Q : VK} {g : TG} {tt : TT} {te : TE} {vs : List Nat}
def LcR3 (g : TG) (tt : TT) (te : TE) (vs : List Nat) (σ : L2.St) (Q : VK) (ws : List V) (H : Hp) : Prop :=
  ∃ (i j c : Int) (n : Nat), ws = [.int i, .int j, .int c] ∧ RgC i j c n ∧ LcG (Itc i c n) g tt te vs σ Q H
theorem r_lcR3 {ta : TA} (k : ta σ H fun ws H1 => LcR3 g tt te vs σ Q ws H1) : tLc (iRng3 ta) g tt te vs σ H Q := k
theorem lcR8 {n : Nat} (hn : n ≤ 100000) (mk : ∀ l H0, H l = none → Same H H0 → H0 l = some (.lst []) → ∃ Pv : Nat → Hp → Prop, Pv 0 H0 ∧
      (∀ (i : Nat) H, 8 * i < n → Pv i H → LTurn g tt te vs l (Pv (i + 1)) (.int ((8 * i : Nat) : Int)) σ H) ∧ ∀ H, Pv ((n + 7) / 8) H → Q (.ref l) H) : LcR3 g tt te vs σ Q [.int 0, .int n, .int 8] H := by
  refine ⟨0, n, 8, (n + 7) / 8, rfl, rg8 hn, fun l hl => ?_⟩
  obtain ⟨Pv, h0, h2, h3⟩ := mk l _ hl (But.new (S := []) hl).same upd_same
  refine ⟨fun i m H => m = (n + 7) / 8 - i ∧ i ≤ (n + 7) / 8 ∧ Pv i H, ⟨_, rfl, Nat.zero_le _, h0⟩, ?_⟩
  rintro i m H ⟨rfl, hi, p⟩
  by_cases hlt : i < (n + 7) / 8
  · refine .inr ⟨hlt, Pv (i + 1), fun H' p' => ⟨_, by omega, rfl, hlt, p'⟩, fun x H' y => ?_⟩
    obtain ⟨rfl, rfl⟩ := y
    have e : (0 : Int) + (i : Nat) * 8 = ((8 * i : Nat) : Int) := by omega
    rw [e]
    exact h2 i _ (by omega) p
  · have e : i = (n + 7) / 8 := by omega
    subst e
    exact .inl ⟨Nat.le_refl _, h3 H p⟩
end
/-! ### methods that may raise -/
structure MetX (P : Program) (w : World) (K : PySem.W.Frag) (mg : Str → Option Value) (base : Heap) (CX : CXT) (k : Nat) (C : Addr) (m : Str) (sp : Sp) : Prop where
  ex : ∃ (f : Addr) (fd : FuncData) (ps : List Str), Cls K C ∧ Meth K C m f ∧ FnOk P w K mg base CX k f fd ps sp ∧ Binds K fd ps []
/-- o.m(e, ..) -/
def tMethS (C : Addr) (m : Str) (sp : Sp) (E : L2.St → XK) (ta : TE) (t : TA) : TE := fun σ H Q => ta σ H fun x H1 => ∃ a dx fs, x = .ref a ∧ H1 a = some (.ins C dx fs) ∧ fs.lookup m = none ∧ t σ H1 fun vs H2 => sp (x :: vs) H2 Q (E σ)
def MethAtS (C : Addr) (m : Str) (sp : Sp) (E : L2.St → XK) (σ : L2.St) (t : TA) (x : V) (H : Hp) (Q : VK) : Prop := ∃ a dx fs, x = .ref a ∧ H a = some (.ins C dx fs) ∧ fs.lookup m = none ∧ t σ H fun vs H2 => sp (x :: vs) H2 Q (E σ)
theorem r_methS {C : Addr} {m : Str} {sp : Sp} {E : L2.St → XK} {ta : TE} {t : TA} {σ : L2.St} {H : Hp} {Q : VK} (k : ta σ H fun x H1 => MethAtS C m sp E σ t x H1 Q) : tMethS C m sp E ta t σ H Q := k
theorem r_methAtS {C a dx : Addr} {m : Str} {sp : Sp} {E : L2.St → XK} {t : TA} {σ : L2.St} {H : Hp} {Q : VK} {fs : List (Str × V)} (h : H a = some (.ins C dx fs)) (l : fs.lookup m = none) (k : t σ H fun vs H2 => sp (.ref a :: vs) H2 Q (E σ)) : MethAtS C m sp E σ t (.ref a) H Q := ⟨a, dx, fs, rfl, h, l, k⟩
section
variable {X : Cx} {CX : CXT} {k j : Nat} {C : Addr} {m : Str} {sp : Sp} {E : L2.St → XK} {p pos apos : Pos} {e o : Expr} {es : List Expr} {ta : TE} {t : TA}
theorem pe_mx0 {pl : Sem Bool} (c : MetX X.prog X.w X.K X.mg X.base CX k C m sp) (hr : Room j X.A) (hk : k ≤ j) (hx : ∀ σ, PassesAt CX X σ (E σ)) (he : PE X o ta)
    (ht : eval (.Call (.Attribute o m apos) [] [] pos) X.env = (do
      let ov ← eval o X.env
      standAt apos.atName
      let (f, first) ← holding [ov] (getMethod ov m pl)
      callWith pos f first (backTo pos (starEach [] X.env)) (backToKw pos (keywordEach [] X.env))) := by rfl) :
    PE X (.Call (.Attribute o m apos) [] [] pos) (tMethS C m sp E ta tNil) := by
  obtain ⟨f, fd, ps, hc, hm, F, hb⟩ := c.ex
  refine ⟨fun pins s σ H Q I h => ?_⟩
  refine PySem.W.methodCall_KW (pl := pl) (thn (he.run pins s σ H _ I h) fun u s1 ⟨x, H1, I1, rx, a, dx, fs, ex, ea, l, q⟩ => ?_) ht
  subst ex
  obtain rfl : u = Value.ref a := rx
  refine getmeth_ok I1 ea hc hm l ?_
  exact PySem.W.callWith_K0 (first := [.ref a]) I1.kIn hm.kp (run_fnS (us := [.ref a]) (vs := [.ref a]) F (hr.mono hk) hb (hx σ) I1 (.cons rfl .nil) q)
theorem pe_mx {pl : Sem Bool} (c : MetX X.prog X.w X.K X.mg X.base CX k C m sp) (hr : Room j X.A) (hk : k ≤ j) (hx : ∀ σ, PassesAt CX X σ (E σ)) (he : PE X o ta) (ha : PA X (e :: es) t)
    (hst : starEach (e :: es) X.env = (false, eval e X.env) :: starEach es X.env := by rfl) (hpl : (backTo pos (starEach es X.env)).any (·.1) = false := by rfl)
    (ht : eval (.Call (.Attribute o m apos) (e :: es) [] pos) X.env = (do
      let ov ← eval o X.env
      standAt apos.atName
      let (f, first) ← holding [ov] (getMethod ov m pl)
      callWith pos f first (backTo pos (starEach (e :: es) X.env)) (backToKw pos (keywordEach [] X.env))) := by rfl) :
    PE X (.Call (.Attribute o m apos) (e :: es) [] pos) (tMethS C m sp E ta t) := by
  obtain ⟨f, fd, ps, hc, hm, F, hb⟩ := c.ex
  refine ⟨fun pins s σ H Q I h => ?_⟩
  refine PySem.W.methodCall_KW (pl := pl) (thn (he.run pins s σ H _ I h) fun u s1 ⟨x, H1, I1, rx, a, dx, fs, ex, ea, l, q⟩ => ?_) ht
  subst ex
  obtain rfl : u = Value.ref a := rx
  refine getmeth_ok I1 ea hc hm l ?_
  refine PySem.W.callWith_K (first := [.ref a]) (h₀ := X.base) I.ok.mod.kin hm.kp (thn (ha.run pos pins s1 σ H1 _ I1 q) fun us s2 ⟨vs, H2, I2, r, q2⟩ => ⟨I2.kIn, ?_⟩) hst hpl
  exact run_fnS (us := .ref a :: us) (vs := .ref a :: vs) F (hr.mono hk) hb (hx σ) I2 (.cons rfl r) q2
end
end J

set_option Elab.async false
set_option linter.all false
set_option maxRecDepth 100000
set_option maxHeartbeats 4000000
namespace J
open PySem L2 PyProof.Rows
/-! ### dicts from whole numbers to data -/
def getD' (m : List (Int × PyData)) (k : Int) : Option PyData := (m.find? fun q => decide (q.1 = k)).map (·.2)
def hasD (m : List (Int × PyData)) (k : Int) : Bool := m.any fun q => decide (q.1 = k)
def putD (m : List (Int × PyData)) (k : Int) (v : PyData) : List (Int × PyData) :=
  if hasD m k = true then m.map (fun q => if q.1 = k then (q.1, v) else q) else m ++ [(k, v)]
def dropD (m : List (Int × PyData)) (k : Int) : List (Int × PyData) := m.filter fun q => decide (q.1 ≠ k)
inductive KvD (K : PySem.W.Frag) (S : List Addr) (H : Hp) : List (L2.Key × V) → List (Int × PyData) → Prop
  | nil : KvD K S H [] []
  | cons {k : Int} {v : V} {d : PyData} {kvs : List (L2.Key × V)} {m : List (Int × PyData)} (h : Dn K S H v d) (t : KvD K S H kvs m) : KvD K S H ((.inl k, v) :: kvs) ((k, d) :: m)
section
variable {K : PySem.W.Frag} {S S' T : List Addr} {H H' : Hp} {kvs : List (L2.Key × V)} {m : List (Int × PyData)}
theorem KvD.same (s : Same H H') (h : KvD K S H kvs m) : KvD K S H' kvs m := by
  induction h with
  | nil => exact .nil
  | cons h _ ih => exact .cons (h.same s) ih
theorem KvD.nlb (h : KvD K S H kvs m) (n : ∀ c ∈ m, noL c.2 = true) (b : But T H H') : KvD K S' H' kvs m := by
  induction h with
  | nil => exact .nil
  | cons h _ ih => exact .cons (h.nlb (n _ List.mem_cons_self) b) (ih fun c hc => n c (List.mem_cons_of_mem _ hc))
theorem KvD.length (h : KvD K S H kvs m) : kvs.length = m.length := by
  induction h with
  | nil => rfl
  | cons _ _ ih => rw [List.length_cons, List.length_cons, ih]
theorem KvD.keys (h : KvD K S H kvs m) : kvs.map (·.1) = (m.map (·.1)).map Sum.inl := by
  induction h with
  | nil => rfl
  | cons _ _ ih => rw [List.map_cons, List.map_cons, List.map_cons, ih]
theorem KvD.get (h : KvD K S H kvs m) (k : Int) : match getD' m k with
    | none => valV kvs (.inl k) = none
    | some d => ∃ v, valV kvs (.inl k) = some v ∧ Dn K S H v d := by
  induction h with
  | nil => rfl
  | @cons k' v d kvs m h _ ih =>
    by_cases e : k' = k
    · have e1 : getD' ((k', d) :: m) k = some d := by unfold getD'; rw [List.find?_cons_of_pos (by simpa using e)]; rfl
      rw [e1]
      exact ⟨v, valV_pos (p := ((Sum.inl k' : L2.Key), v)) (by rw [e]), h⟩
    · have e1 : getD' ((k', d) :: m) k = getD' m k := by unfold getD'; rw [List.find?_cons_of_neg (by simpa using e)]
      have e2 : valV (((Sum.inl k' : L2.Key), v) :: kvs) (.inl k) = valV kvs (.inl k) := valV_neg (p := ((Sum.inl k' : L2.Key), v)) (fun z => e (Sum.inl.inj z))
      rw [e1, e2]; exact ih
theorem hasD_get (m : List (Int × PyData)) (k : Int) : hasD m k = (getD' m k).isSome := by
  unfold hasD getD'
  induction m with
  | nil => rfl
  | cons q m ih =>
    by_cases e : q.1 = k
    · rw [List.any_cons, List.find?_cons_of_pos (by simpa using e), decide_eq_true e]; rfl
    · rw [List.any_cons, List.find?_cons_of_neg (by simpa using e), decide_eq_false e, Bool.false_or, ih]
theorem KvD.some (h : KvD K S H kvs m) {k : Int} {d : PyData} (e : getD' m k = some d) : ∃ v, valV kvs (.inl k) = some v ∧ Dn K S H v d := by
  have := h.get k
  rw [e] at this; exact this
theorem KvD.none (h : KvD K S H kvs m) {k : Int} (e : getD' m k = none) : valV kvs (.inl k) = none := by
  have := h.get k
  rw [e] at this; exact this
theorem KvD.any (h : KvD K S H kvs m) (k : Int) : (kvs.any fun kv => decide (kv.1 = (.inl k : L2.Key))) = hasD m k := by
  rw [valV_any, hasD_get]
  cases e : getD' m k with
  | none => rw [h.none e]; rfl
  | some d =>
    obtain ⟨v, hv, _⟩ := h.some e
    rw [hv]; rfl
theorem KvD.put (h : KvD K S H kvs m) {k : Int} {v : V} {d : PyData} (hv : Dn K S H v d) : KvD K S H (putK kvs (.inl k) v) (putD m k d) := by
  unfold putK putD
  rw [h.any k]
  split
  · have mp : ∀ {kvs : List (L2.Key × V)} {m : List (Int × PyData)}, KvD K S H kvs m → KvD K S H (kvs.map fun kv => if kv.1 = (.inl k : L2.Key) then (kv.1, v) else kv) (m.map fun q => if q.1 = k then (q.1, d) else q) := by
      intro kvs m h
      induction h with
      | nil => exact .nil
      | @cons k2 v2 d2 kvs m h t ih =>
        rw [List.map_cons, List.map_cons]
        by_cases e : k2 = k
        · rw [if_pos (by rw [e]), if_pos e]; exact .cons hv ih
        · rw [if_neg (fun z => e (Sum.inl.inj z)), if_neg e]; exact .cons h ih
    exact mp h
  · have ap : ∀ {kvs : List (L2.Key × V)} {m : List (Int × PyData)}, KvD K S H kvs m → KvD K S H (kvs ++ [(.inl k, v)]) (m ++ [(k, d)]) := by
      intro kvs m h
      induction h with
      | nil => exact .cons hv .nil
      | cons h _ ih => exact .cons h ih
    exact ap h
theorem KvD.drop (h : KvD K S H kvs m) {k : Int} : KvD K S H (dropK kvs (.inl k)) (dropD m k) := by
  unfold dropK dropD
  induction h with
  | nil => exact .nil
  | @cons k' v' d' kvs m h t ih =>
    by_cases e : k' = k
    · rw [List.filter_cons_of_neg (by rw [e]; simp), List.filter_cons_of_neg (by simpa using e)]; exact ih
    · rw [List.filter_cons_of_pos (by simpa using fun z => e z), List.filter_cons_of_pos (by simpa using e)]; exact .cons h ih
end
theorem putD_length (m : List (Int × PyData)) (k : Int) (v : PyData) : (putD m k v).length ≤ m.length + 1 := by
  unfold putD
  split
  · rw [List.length_map]; omega
  · rw [List.length_append]; exact Nat.le_refl _
theorem putD_mem {m : List (Int × PyData)} {k : Int} {v : PyData} {c : Int × PyData} (h : c ∈ putD m k v) : c ∈ m ∨ c = (k, v) := by
  unfold putD at h
  split at h
  · obtain ⟨q, hq, e⟩ := List.mem_map.mp h
    split at e
    · rename_i hk; right; rw [← e, ← hk]
    · left; rw [← e]; exact hq
  · rcases List.mem_append.mp h with h | h
    · exact .inl h
    · exact .inr (List.mem_singleton.mp h)
theorem putD_keys {m : List (Int × PyData)} {k : Int} {v : PyData} (hm : (m.map (·.1)).Nodup) : ((putD m k v).map (·.1)).Nodup := by
  unfold putD
  split
  · rw [List.map_map]
    have e : ((fun q : Int × PyData => q.1) ∘ fun q => if q.1 = k then (q.1, v) else q) = fun q => q.1 := by
      funext q
      simp only [Function.comp]
      split <;> rfl
    rw [e]; exact hm
  · rename_i h
    rw [List.map_append]
    refine List.nodup_append.mpr ⟨hm, by simp, fun a ha b hb e => h ?_⟩
    rw [List.map_singleton, List.mem_singleton] at hb
    obtain ⟨q, hq, e2⟩ := List.mem_map.mp ha
    unfold hasD
    rw [List.any_eq_true]
    exact ⟨q, hq, decide_eq_true (by rw [e2, e, hb])⟩
theorem dropD_mem {m : List (Int × PyData)} {k : Int} {c : Int × PyData} (h : c ∈ dropD m k) : c ∈ m ∧ c.1 ≠ k := by
  obtain ⟨h1, h2⟩ := List.mem_filter.mp h
  exact ⟨h1, of_decide_eq_true h2⟩
theorem dropD_keys {m : List (Int × PyData)} {k : Int} (hm : (m.map (·.1)).Nodup) : ((dropD m k).map (·.1)).Nodup := hm.sublist ((List.filter_sublist).map _)
theorem getD_mem {m : List (Int × PyData)} {k : Int} {d : PyData} (h : getD' m k = some d) : (k, d) ∈ m := by
  unfold getD' at h
  obtain ⟨q, hq, e⟩ := Option.map_eq_some_iff.mp h
  have h1 := List.find?_some hq
  have h2 := List.mem_of_find?_eq_some hq
  have e1 := of_decide_eq_true h1
  rw [← e1, ← e]; exact h2
/-! ### their rules -/
section
variable {K : PySem.W.Frag} {S : List Addr} {H : Hp} {Q : VK} {a : Addr} {kvs : List (L2.Key × V)} {m : List (Int × PyData)} {k : Int} {v : V}
theorem r_dputD {R : Hp → Prop} (h : H a = some (.dK kvs)) (c : kvs.length < sizeLine) (q : ∀ H', But [a] H H' → H' a = some (.dK (putK kvs (.inl k) v)) → R H') :
    ∃ b H4, V.ref a = .ref b ∧ DPut H b (.int k) v H4 ∧ R H4 :=
  ⟨a, _, rfl, DPut.k (k := .inl k) h c, q _ (But.write h (fun z => z) (by simp)) upd_same⟩
theorem r_clearD (h : H a = some (.dK kvs)) (q : ∀ H', But [a] H H' → H' a = some (.dK []) → Q .non H') : rDClear (.ref a) [] H Q :=
  ⟨a, kvs, rfl, rfl, h, q _ (But.write h (fun z => z) (by simp)) upd_same⟩
end
theorem upd_exK {H : Hp} {a : Addr} {kvs : List (L2.Key × V)} {o' : HO} (h : H a = some (.dK kvs)) : ∃ H', upd H a o' = H' ∧ But [a] H H' ∧ H' a = some o' := ⟨_, rfl, But.write h (fun z => z) (by simp), upd_same⟩
/-- d.pop(k, x) -/
theorem r_dpop2 {td ty tx : TE} {σ : L2.St} {H : Hp} {Q : VK} (k : td σ H fun x H1 => ∃ a, x = .ref a ∧ IsD H1 a ∧ ty σ H1 fun y H2 => tx σ H2 fun z H3 => ∃ kvs k, H3 a = some (.dK kvs) ∧ y = kV k ∧ (∀ v, valV kvs k = some v → Q v (upd H3 a (.dK (dropK kvs k)))) ∧ (valV kvs k = none → Q z H3)) : tDPop2 td ty tx σ H Q := k
/-- d.pop(k) -/
theorem r_dpop1 {td ty : TE} {σ : L2.St} {H : Hp} {Q : VK} (k : td σ H fun x H1 => ∃ a, x = .ref a ∧ IsD H1 a ∧ ty σ H1 fun y H2 => ∃ kvs k v, H2 a = some (.dK kvs) ∧ y = kV k ∧ valV kvs k = some v ∧ Q v (upd H2 a (.dK (dropK kvs k)))) : tDPop1 td ty σ H Q := k
/-- d[k] -/
def DAt (x y : V) (H : Hp) (Q : VK) : Prop := ∃ a v, x = .ref a ∧ DGet H a y (some v) ∧ Q v H
theorem r_dget {td ty : TE} {σ : L2.St} {H : Hp} {Q : VK} (k : td σ H fun x H1 => ty σ H1 fun y H2 => DAt x y H2 Q) : tDGet td ty σ H Q := k
theorem r_dAt {H : Hp} {a : Addr} {kvs : List (L2.Key × V)} {k : Int} {v : V} {Q : VK} (h : H a = some (.dK kvs)) (e : valV kvs (.inl k) = some v) (q : Q v H) : DAt (.ref a) (.int k) H Q := ⟨a, v, rfl, e ▸ DGet.k (k := .inl k) h, q⟩
theorem r_dAtS {H : Hp} {a : Addr} {kvs : List (L2.Key × V)} {k : Str} {v : V} {Q : VK} (h : H a = some (.dK kvs)) (e : valV kvs (.inr k) = some v) (q : Q v H) : DAt (.ref a) (.str k) H Q := ⟨a, v, rfl, e ▸ DGet.k (k := .inr k) h, q⟩
/-- k in d -/
def DInAt (b : Bool) (x y : V) (H : Hp) (Q : VK) : Prop := ∃ a o, x = .ref a ∧ DGet H a y o ∧ Q (.bl (o.isSome != b)) H
theorem r_din {td ty : TE} {σ : L2.St} {H : Hp} {Q : VK} (k : ty σ H fun y H1 => td σ H1 fun x H2 => ∃ a o, x = .ref a ∧ DGet H2 a y o ∧ Q (.bl o.isSome) H2) : tDIn ty td σ H Q := k
theorem r_dnin {td ty : TE} {σ : L2.St} {H : Hp} {Q : VK} (k : ty σ H fun y H1 => td σ H1 fun x H2 => ∃ a o, x = .ref a ∧ DGet H2 a y o ∧ Q (.bl (!o.isSome)) H2) : tDNotIn ty td σ H Q := k
theorem r_dinAt {K : PySem.W.Frag} {S : List Addr} {H : Hp} {a : Addr} {kvs : List (L2.Key × V)} {m : List (Int × PyData)} {k : Int} {R : Bool → Prop} (h : H a = some (.dK kvs)) (hm : KvD K S H kvs m) (q : R (hasD m k)) : ∃ b o, V.ref a = .ref b ∧ DGet H b (.int k) o ∧ R o.isSome := by
  refine ⟨a, _, rfl, DGet.k (k := .inl k) h, ?_⟩
  have e : (valV kvs (.inl k)).isSome = hasD m k := by rw [← valV_any, hm.any k]
  rw [e]; exact q
/-! ### a rule left out: a text or None -/
def ruleV : Option Str → V
  | none => .non
  | some s => .str s
def ruleD : Option Str → PyData
  | none => .none
  | some s => .str s
theorem rule_dn {K : PySem.W.Frag} {S : List Addr} {H : Hp} : ∀ wo, Dn K S H (ruleV wo) (ruleD wo)
  | none => .non
  | some _ => .str _
end J

set_option Elab.async false
set_option linter.all false
set_option maxRecDepth 100000
set_option maxHeartbeats 4000000
namespace J
open PySem L2 PyProof.Rows
/-! ### dicts with text keys; dict == {}; list.remove -/
def rEqDE : R2 := fun x y H Q => ∃ a b kvs, x = .ref a ∧ y = .ref b ∧ H a = some (.dK kvs) ∧ H b = some (.dK []) ∧ Q (.bl kvs.isEmpty) H
theorem op_eqDE {X : Cx} (hu : X.A.units + 64 < cLine) : OpR X (compareOp .Eq) rEqDE := by
  intro pins s σ H x y v u Q I rx ry h
  obtain ⟨a, b, ks, rfl, rfl, ea, eb, q⟩ := h
  obtain rfl : v = Value.ref a := rx
  obtain rfl : u = Value.ref b := ry
  obtain ⟨_, ya, va, ra, da⟩ := (show ObjOk X.prog X.w H s.heap a (.dK ks) from I.hok a _ ea)
  obtain ⟨_, yb, vb, rb, db⟩ := (show ObjOk X.prog X.w H s.heap b (.dK []) from I.hok b _ eb)
  have hl : va.length = ks.length := ra.length.symm
  have hb : vb.length = 0 := rb.length.symm
  refine PySem.W.keq_eq (knd := mixKind X.prog X.w) (r := true) ya yb da db (by omega) (fun e => ?_) ⟨.bl _, H, I, ?_, q⟩
  · have : va = [] := List.length_eq_zero_iff.mp (by omega)
    subst this
    exact .nil
  · show Value.bool _ = Value.bool _
    rw [hl, hb]
    cases ks <;> rfl
theorem r_eqDE {H : Hp} {Q : VK} {a b : Addr} {kvs : List (L2.Key × V)} (h : H a = some (.dK kvs)) (h2 : H b = some (.dK [])) (q : Q (.bl kvs.isEmpty) H) : rEqDE (.ref a) (.ref b) H Q := ⟨a, b, kvs, rfl, rfl, h, h2, q⟩
section
variable {H : Hp} {Q : VK} {σ : L2.St} {trs : List (TE × TE)} {tk tv : TE}
def DispAt (p : Addr) (ps : List (V × V)) (H2 : Hp) (Q : VK) : Prop := H2 p = some (.dK []) ∧ ∃ kvs : List (L2.Key × V), ps = kvs.map (fun kv => (kV kv.1, kv.2)) ∧ kvs.length ≤ 15 ∧ Q (.ref p) (upd H2 p (.dK (mergeK [] kvs)))
theorem r_disp (k : ∀ p H1, H p = none → Same H H1 → H1 p = some (.dK []) → tPairs trs σ H1 fun ps H2 => DispAt p ps H2 Q) : tDisp trs σ H Q := fun p hp => k p _ hp (But.new (S := []) hp).same upd_same
theorem r_pcons {Q : List (V × V) → Hp → Prop} (k : tk σ H fun x H1 => tv σ H1 fun y H2 => tPairs trs σ H2 fun ps H3 => Q ((x, y) :: ps) H3) : tPairs ((tk, tv) :: trs) σ H Q := k
theorem r_pnil {Q : List (V × V) → Hp → Prop} (k : Q [] H) : tPairs [] σ H Q := k
theorem dispAt {p : Addr} {ps : List (V × V)} (kvs : List (L2.Key × V)) (h : H p = some (.dK [])) (e : ps = kvs.map (fun kv => (kV kv.1, kv.2))) (l : kvs.length ≤ 15) (em : mergeK [] kvs = kvs) (q : ∀ H', But [p] H H' → H' p = some (.dK kvs) → Q (.ref p) H') : DispAt p ps H Q :=
  ⟨h, kvs, e, l, by rw [em]; exact q _ (But.write h (fun z => z) (by simp)) upd_same⟩
end
theorem r_dputS {R : Hp → Prop} {H : Hp} {a : Addr} {kvs kvs' : List (L2.Key × V)} {k : Str} {v : V} (h : H a = some (.dK kvs)) (c : kvs.length < sizeLine) (e : putK kvs (.inr k) v = kvs') (q : ∀ H', But [a] H H' → H' a = some (.dK kvs') → R H') :
    ∃ b H4, V.ref a = .ref b ∧ DPut H b (.str k) v H4 ∧ R H4 :=
  ⟨a, _, rfl, DPut.k (k := .inr k) h c, q _ (But.write h (fun z => z) (by simp)) (by rw [upd_same, e])⟩
/-- xs.remove(k) -/
theorem r_rem {H : Hp} {Q : VK} {a : Addr} {ns : List Int} {k : Int} (h : H a = some (.lst (ns.map V.int))) (hk : k ∈ ns) (q : ∀ H', But [a] H H' → H' a = some (.lst ((ns.erase k).map V.int)) → Q .non H') : rRemI (.ref a) [.int k] H Q := by
  refine ⟨a, ns, k, ns.idxOf k, rfl, rfl, h, List.getElem?_eq_some_iff.mpr ⟨List.idxOf_lt_length_of_mem hk, List.getElem_idxOf _⟩, fun m hm e => ?_, ?_⟩
  · have hlt : m < ns.length := (List.getElem?_eq_some_iff.mp e).1
    have e2 := (List.getElem?_eq_some_iff.mp e).2
    have h9 := List.not_of_lt_findIdx (p := (· == k)) hm
    simp [e2] at h9
  · rw [← List.erase_eq_eraseIdx_of_idxOf rfl]
    exact q _ (But.write h (fun z => z) (by simp)) upd_same
theorem okTup2 {n m k : Nat} {d e : PyData} (h : Ok n k d) (h' : Ok m k e) : Ok (n + m + 7) (k + 1) (.tuple [d, e]) := by
  have hn : OkAll (n + m) k [d, e] := .cons (h.mono (by omega) (Nat.le_refl _)) (.cons (h'.mono (by omega) (Nat.le_refl _)) .nil)
  refine ⟨all_lay hn, all_show hn, Nat.succ_le_succ (all_dep hn), ?_⟩
  have h1 := tupleText_le (PyData.shownAll [d, e])
  have h2 : piled (PyData.shownAll [d, e]) ≤ n + 2 + (m + 2) := by
    show piled (d.shown :: e.shown :: []) ≤ _
    rw [piled_cons, piled_cons]
    have := h.len
    have := h'.len
    have e0 : piled [] = 0 := rfl
    omega
  simp only [PyData.shown]
  omega
theorem okTup3 {n m l k : Nat} {d e f : PyData} (h : Ok n k d) (h' : Ok m k e) (h'' : Ok l k f) : Ok (n + m + l + 9) (k + 1) (.tuple [d, e, f]) := by
  have hn : OkAll (n + m + l) k [d, e, f] := .cons (h.mono (by omega) (Nat.le_refl _)) (.cons (h'.mono (by omega) (Nat.le_refl _)) (.cons (h''.mono (by omega) (Nat.le_refl _)) .nil))
  refine ⟨all_lay hn, all_show hn, Nat.succ_le_succ (all_dep hn), ?_⟩
  have h1 := tupleText_le (PyData.shownAll [d, e, f])
  have h2 : piled (PyData.shownAll [d, e, f]) ≤ n + 2 + (m + 2 + (l + 2)) := by
    show piled (d.shown :: e.shown :: f.shown :: []) ≤ _
    rw [piled_cons, piled_cons, piled_cons]
    have := h.len
    have := h'.len
    have := h''.len
    have e0 : piled [] = 0 := rfl
    omega
  simp only [PyData.shown]
  omega
theorem call_sortedL {X : Cx} {K : PySem.W.Frag} (e : X.K = K := by rfl) : CallR X (.builtin "sorted") (rSorted K) := by subst e; exact cr_sorted
/-! ### the law's own dict of a journal, and of a kept transaction -/
section
variable (s h n hd lk dc lr wo ld le x : V)
def mF : List (L2.Key × V) := [(.inr "slots", s), (.inr "homes", h), (.inr "next", n), (.inr "head", hd), (.inr "kept", lk), (.inr "copies", dc), (.inr "revokes", lr), (.inr "rule", wo), (.inr "disk", ld), (.inr "events", le)]
theorem mv_slots : valV (mF s h n hd lk dc lr wo ld le) (.inr "slots") = some s := by with_unfolding_all rfl
theorem mv_homes : valV (mF s h n hd lk dc lr wo ld le) (.inr "homes") = some h := by with_unfolding_all rfl
theorem mv_next : valV (mF s h n hd lk dc lr wo ld le) (.inr "next") = some n := by with_unfolding_all rfl
theorem mv_head : valV (mF s h n hd lk dc lr wo ld le) (.inr "head") = some hd := by with_unfolding_all rfl
theorem mv_kept : valV (mF s h n hd lk dc lr wo ld le) (.inr "kept") = some lk := by with_unfolding_all rfl
theorem mv_copies : valV (mF s h n hd lk dc lr wo ld le) (.inr "copies") = some dc := by with_unfolding_all rfl
theorem mv_revokes : valV (mF s h n hd lk dc lr wo ld le) (.inr "revokes") = some lr := by with_unfolding_all rfl
theorem mv_rule : valV (mF s h n hd lk dc lr wo ld le) (.inr "rule") = some wo := by with_unfolding_all rfl
theorem mv_disk : valV (mF s h n hd lk dc lr wo ld le) (.inr "disk") = some ld := by with_unfolding_all rfl
theorem mv_events : valV (mF s h n hd lk dc lr wo ld le) (.inr "events") = some le := by with_unfolding_all rfl
theorem mp_next : putK (mF s h n hd lk dc lr wo ld le) (.inr "next") x = mF s h x hd lk dc lr wo ld le := by with_unfolding_all rfl
theorem mp_head : putK (mF s h n hd lk dc lr wo ld le) (.inr "head") x = mF s h n x lk dc lr wo ld le := by with_unfolding_all rfl
theorem mp_kept : putK (mF s h n hd lk dc lr wo ld le) (.inr "kept") x = mF s h n hd x dc lr wo ld le := by with_unfolding_all rfl
theorem mp_copies : putK (mF s h n hd lk dc lr wo ld le) (.inr "copies") x = mF s h n hd lk x lr wo ld le := by with_unfolding_all rfl
theorem mp_revokes : putK (mF s h n hd lk dc lr wo ld le) (.inr "revokes") x = mF s h n hd lk dc x wo ld le := by with_unfolding_all rfl
/-- as it is made: its disk and its events come last -/
def mF8 : List (L2.Key × V) := [(.inr "slots", s), (.inr "homes", h), (.inr "next", n), (.inr "head", hd), (.inr "kept", lk), (.inr "copies", dc), (.inr "revokes", lr), (.inr "rule", wo)]
def mF9 : List (L2.Key × V) := [(.inr "slots", s), (.inr "homes", h), (.inr "next", n), (.inr "head", hd), (.inr "kept", lk), (.inr "copies", dc), (.inr "revokes", lr), (.inr "rule", wo), (.inr "disk", ld)]
theorem mp_disk8 : putK (mF8 s h n hd lk dc lr wo) (.inr "disk") x = mF9 s h n hd lk dc lr wo x := by with_unfolding_all rfl
theorem mp_events9 : putK (mF9 s h n hd lk dc lr wo ld) (.inr "events") x = mF s h n hd lk dc lr wo ld x := by with_unfolding_all rfl
theorem mm8 : mergeK [] (mF8 s h n hd lk dc lr wo) = mF8 s h n hd lk dc lr wo := by with_unfolding_all rfl
end
section
variable (n z dc lr s l x : V)
def kF5 : List (L2.Key × V) := [(.inr "number", n), (.inr "size", z), (.inr "copies", dc), (.inr "revokes", lr), (.inr "slot", s)]
def kF : List (L2.Key × V) := [(.inr "number", n), (.inr "size", z), (.inr "copies", dc), (.inr "revokes", lr), (.inr "slot", s), (.inr "left", l)]
theorem kv_number : valV (kF n z dc lr s l) (.inr "number") = some n := by with_unfolding_all rfl
theorem kv_size : valV (kF n z dc lr s l) (.inr "size") = some z := by with_unfolding_all rfl
theorem kv_copies : valV (kF n z dc lr s l) (.inr "copies") = some dc := by with_unfolding_all rfl
theorem kv_revokes : valV (kF n z dc lr s l) (.inr "revokes") = some lr := by with_unfolding_all rfl
theorem kv_slot : valV (kF n z dc lr s l) (.inr "slot") = some s := by with_unfolding_all rfl
theorem kv_left : valV (kF n z dc lr s l) (.inr "left") = some l := by with_unfolding_all rfl
theorem kp_left5 : putK (kF5 n z dc lr s) (.inr "left") x = kF n z dc lr s x := by with_unfolding_all rfl
theorem kp_left : putK (kF n z dc lr s l) (.inr "left") x = kF n z dc lr s x := by with_unfolding_all rfl
theorem km5 : mergeK [] (kF5 n z dc lr s) = kF5 n z dc lr s := by with_unfolding_all rfl
end
end J

set_option Elab.async false
set_option linter.all false
set_option maxRecDepth 100000
set_option maxHeartbeats 4000000
namespace J
open PySem L2 PyProof.Rows
/-! ### list == [] whatever the list holds -/
def rEqLE : R2 := fun x y H Q => ∃ a b xs, x = .ref a ∧ y = .ref b ∧ H a = some (.lst xs) ∧ H b = some (.lst []) ∧ Q (.bl xs.isEmpty) H
def rNeLE : R2 := fun x y H Q => ∃ a b xs, x = .ref a ∧ y = .ref b ∧ H a = some (.lst xs) ∧ H b = some (.lst []) ∧ Q (.bl (!xs.isEmpty)) H
theorem op_eqLE {X : Cx} (hu : X.A.units + 64 < cLine) : OpR X (compareOp .Eq) rEqLE := by
  intro pins s σ H x y v u Q I rx ry h
  obtain ⟨a, b, xs, rfl, rfl, ea, eb, q⟩ := h
  obtain rfl : v = Value.ref a := rx
  obtain rfl : u = Value.ref b := ry
  obtain ⟨_, its, n, r, hl, e⟩ := I.lstM ea
  obtain ⟨_, its2, n2, r2, hl2, e2⟩ := I.lstM eb
  have z2 : its2 = [] := List.length_eq_zero_iff.mp hl2.symm
  subst z2
  have la : s.heap.IsList a its.toArray := ⟨_, e, rfl, n, rfl⟩
  have lb : s.heap.IsList b ([] : List Value).toArray := ⟨_, e2, rfl, n2, rfl⟩
  cases xs with
  | nil =>
    have z1 : its = [] := List.length_eq_zero_iff.mp hl.symm
    subst z1
    exact PySem.SeqAt.RcAt.lists (e := fun _ => true) la lb rfl (by omega) (fun j h1 h2 => absurd h1 (Nat.not_lt_zero _)) _ _ _ _ ⟨.bl true, H, I, rfl, q⟩
  | cons x0 xs0 =>
    exact PySem.SeqAt.RcAt.lists_lengths la lb (by rw [List.size_toArray, List.size_toArray, ← hl]; rfl) (by omega) _ _ _ _ ⟨.bl false, H, I, rfl, q⟩
theorem op_neLE {X : Cx} (hu : X.A.units + 64 < cLine) : OpR X (compareOp .NotEq) rNeLE := by
  intro pins s σ H x y v u Q I rx ry h
  obtain ⟨a, b, xs, rfl, rfl, ea, eb, q⟩ := h
  obtain rfl : v = Value.ref a := rx
  obtain rfl : u = Value.ref b := ry
  obtain ⟨_, its, n, r, hl, e⟩ := I.lstM ea
  obtain ⟨_, its2, n2, r2, hl2, e2⟩ := I.lstM eb
  have z2 : its2 = [] := List.length_eq_zero_iff.mp hl2.symm
  subst z2
  have la : s.heap.IsList a its.toArray := ⟨_, e, rfl, n, rfl⟩
  have lb : s.heap.IsList b ([] : List Value).toArray := ⟨_, e2, rfl, n2, rfl⟩
  cases xs with
  | nil =>
    have z1 : its = [] := List.length_eq_zero_iff.mp hl.symm
    subst z1
    exact PySem.SeqAt.RcNeAt.lists (e := fun _ => true) la lb rfl (by omega) (fun j h1 h2 => absurd h1 (Nat.not_lt_zero _)) _ _ _ _ ⟨.bl false, H, I, rfl, q⟩
  | cons x0 xs0 =>
    exact PySem.SeqAt.RcNeAt.lists_lengths la lb (by rw [List.size_toArray, List.size_toArray, ← hl]; rfl) (by omega) _ _ _ _ ⟨.bl true, H, I, rfl, q⟩
theorem r_eqLE {H : Hp} {Q : VK} {a b : Addr} {xs : List V} (h : H a = some (.lst xs)) (h2 : H b = some (.lst [])) (q : Q (.bl xs.isEmpty) H) : rEqLE (.ref a) (.ref b) H Q := ⟨a, b, xs, rfl, rfl, h, h2, q⟩
theorem r_neLE {H : Hp} {Q : VK} {a b : Addr} {xs : List V} (h : H a = some (.lst xs)) (h2 : H b = some (.lst [])) (q : Q (.bl (!xs.isEmpty)) H) : rNeLE (.ref a) (.ref b) H Q := ⟨a, b, xs, rfl, rfl, h, h2, q⟩
end J

set_option Elab.async false
set_option linter.all false
set_option maxRecDepth 100000
set_option maxHeartbeats 4000000
namespace J
open PySem PySem.Spec L2 L2.DX PyProof.Rows
/-! ### sorted(d.items()), d with int keys and any values -/
def IsPr (h : Heap) (v : Value) (x : Int) : Prop := ∃ (a : Addr) (o : Obj) (t : Tok) (y : Value) (n : Nat), v = .ref a ∧ h.get? a = some o ∧ o.cls = .type "tuple" ∧ o.data = .seq #[.int x t, y] n
theorem IsPr.keeps {h h' : Heap} {v : Value} {x : Int} (p : IsPr h v x) (k : ∀ b o, h.get? b = some o → o.cls = .type "tuple" → h'.get? b = some o) : IsPr h' v x := by
  obtain ⟨a, o, t, u, n, e, ho, hc, hd⟩ := p
  exact ⟨a, o, t, u, n, e, k _ _ ho hc, hc, hd⟩
theorem prFirsts {h : Heap} : ∀ {vs : List Value}, (∀ v ∈ vs, ∃ x, IsPr h v x) → ∃ fs : List Value, PySem.W.KatTups h vs fs ∧ fs.length = vs.length ∧ ∀ f ∈ fs, ∃ x t, f = Value.int x t
  | [], _ => ⟨[], PySem.W.KatTups.nil, rfl, fun _ hm => by simp at hm⟩
  | v :: vs, hp => by
    obtain ⟨fs, h1, h2, h3⟩ := prFirsts (vs := vs) fun v' hm => hp v' (List.mem_cons_of_mem _ hm)
    obtain ⟨x, a, o, t, u, n, e, ho, hc, hd⟩ := hp v List.mem_cons_self
    subst e
    refine ⟨.int x t :: fs, PySem.W.KatTups.cons ho hc hd rfl h1, by rw [List.length_cons, List.length_cons, h2], fun f hm => ?_⟩
    rcases List.mem_cons.mp hm with rfl | hm
    · exact ⟨x, t, rfl⟩
    · exact h3 f hm
theorem swo_int' (k : Value → Int) : SrtO.Swo fun v u => decide (k v < k u) := by
  refine ⟨fun x y h => ?_, fun x y z h1 h2 => ?_⟩
  · have := of_decide_eq_true h
    exact decide_eq_false (by omega)
  · have := of_decide_eq_false h1
    have := of_decide_eq_false h2
    exact decide_eq_false (by omega)
section
variable {prog : Program} {w : World} {A : Around} {s : Shared}
theorem pr_cmp {vs : List Value} {k : Value → Int} (hp : ∀ v ∈ vs, IsPr s.heap v (k v)) (inj : ∀ v ∈ vs, ∀ u ∈ vs, k v = k u → v = u) : SrtO.Cmp prog w A s (PyProof.Rows.tuples' true) (fun p => p.1 ∈ vs) (SrtO.lt2 fun v u => decide (k v < k u)) := by
  intro p q hm hm'
  have h1 := hp _ hm
  have h2 := hp _ hm'
  have hi := inj _ hm _ hm'
  show wpAny (model prog w) A (PyProof.Rows.keyLt' (PyProof.Rows.tuples' true) p.1 q.1) (fun r s' => s' = s ∧ r = decide (k p.1 < k q.1)) (fun _ _ => False) s
  generalize k p.1 = x at h1 hi ⊢
  generalize k q.1 = x' at h2 hi ⊢
  obtain ⟨a, o, t, y, n, e, ho, hc, hd⟩ := h1
  obtain ⟨a', o', t', y', n', e', ho', hc', hd'⟩ := h2
  rw [e, e'] at hi ⊢
  refine PySem.W.kat_lt ho hd ho' hd' ?_
  show PySem.W.KatLex prog w A true (decide (2 < 2)) _ [(.int x t, .int x' t'), (y, y')] 0 s
  refine PySem.W.kat_cons (SeqAt.EqAt.int_int x t x' t' prog w _ _ ?_)
  refine PySem.W.kat_go (fun e1 => ?_) (fun e1 => ?_)
  · have ex : x = x' := by simpa using e1
    have ea := hi ex
    cases ea
    have eo : o = o' := Option.some.inj (ho.symm.trans ho')
    subst eo
    have ed := hd.symm.trans hd'
    have ey : y = y' := by
      have h9 : (#[Value.int x t, y] : Array Value) = #[Value.int x' t', y'] := by injection ed
      have h10 := congrArg Array.toList h9
      simp at h10
      exact h10.2
    subst ey
    refine PySem.W.kat_yes (PySem.W.kat_cons (SeqAt.EqAt.same y prog w _ _ ?_))
    refine PySem.W.kat_yes (PySem.W.kat_nil ⟨rfl, ?_⟩)
    exact (decide_eq_false (by omega)).symm
  · exact PySem.W.kat_no (oneLt_int ⟨rfl, rfl⟩)
theorem pr_sortable {a : Addr} {vs : List Value} {k : Value → Int} (h0 : 0 < vs.length) (hp : ∀ v ∈ vs, IsPr s.heap v (k v)) (inj : ∀ v ∈ vs, ∀ u ∈ vs, k v = k u → v = u) (ha : ∀ o, s.heap.get? a = some o → o.cls ≠ .type "tuple") : SrtO.SortableO prog w A s a vs fun v u => decide (k v < k u) := by
  intro h' keep
  have hp' : ∀ v ∈ vs, IsPr h' v (k v) := fun v hm => (hp v hm).keeps fun b o e c => keep b o (fun z => by subst z; exact ha o e c) e
  obtain ⟨fs, h1, h2, h3⟩ := prFirsts fun v hm => ⟨_, hp' v hm⟩
  refine ⟨PyProof.Rows.tuples' true, fun Q E hq => ?_, pr_cmp hp' inj⟩
  refine PySem.W.kat_kind (T := .type "int") h1 (by omega) (fun f hm => ?_) (by rfl) ?_
  · obtain ⟨x, t, rfl⟩ := h3 f hm
    exact PySem.W.Looks.now
  · have e : (Value.type "int" != Value.type "tuple") = true := by first | decide +kernel | rfl | decide
    rw [e]
    exact hq
end
/-- xs.sort(), pairs with different ints ahead -/
def rSortPr : V → List V → Hp → VK → Prop := fun x xs H Q => ∃ (a : Addr) (ys : List V) (k : V → Int), x = V.ref a ∧ xs = [] ∧ H a = some (.lst ys) ∧ (∀ y ∈ ys, ∃ t z, y = V.ref t ∧ H t = some (.tup [.int (k y), z])) ∧ (∀ y ∈ ys, ∀ z ∈ ys, k y = k z → y = z) ∧
  ∀ zs, zs.Perm ys → (zs.map k).Pairwise (· ≤ ·) → Q .non (upd H a (.lst zs))
section
variable {X : Cx} {K : PySem.W.Frag}
theorem mt_sortPr : MtR X "list.sort" rSortPr := by
  intro pins s σ H x xs v us Q I rx rxs h
  obtain ⟨a, ys, k, rfl, rfl, ha, hx, inj, q⟩ := h
  cases rx
  cases rxs
  obtain ⟨hz, its, n, rv, hob⟩ := I.hok a _ ha
  obtain ⟨e1, e2⟩ := refs_back rv fun x m => by
    obtain ⟨t, _, e, _⟩ := hx x m
    exact ⟨t, e⟩
  have hm1 : ∀ v ∈ its, backV v ∈ ys := fun v hv => by rw [e1]; exact List.mem_map.mpr ⟨_, hv, rfl⟩
  have hp : ∀ v ∈ its, IsPr s.heap v (k (backV v)) := fun v hv => by
    have hm := hm1 v hv
    obtain ⟨t, rfl⟩ := e2 v hv
    obtain ⟨t', z, e, ht⟩ := hx _ hm
    cases e
    obtain ⟨_, its2, r2, o, ho, hc, n, hd⟩ := I.hok _ _ ht
    obtain ⟨u1, u2, rfl, ri, rj⟩ := vals2 r2
    obtain ⟨t1, rfl⟩ := ri
    exact ⟨t, o, t1, u2, n, rfl, ho, hc, hd⟩
  have hij : ∀ v ∈ its, ∀ u ∈ its, k (backV v) = k (backV u) → v = u := fun v hv u hu e => by
    have := inj _ (hm1 v hv) _ (hm1 u hu) e
    obtain ⟨t, rfl⟩ := e2 v hv
    obtain ⟨t', rfl⟩ := e2 u hu
    have e9 : V.ref t = V.ref t' := this
    cases e9; rfl
  refine wpAny_call_entry PyProof.Rows.slot_list_sort ⟨_, hob, rfl⟩ PyProof.Rows.entry_list_sort
    (SrtO.list_sort_ord (swo_int' fun u => k (backV u)) hob (by rw [← rv.length]; exact hz) (fun h2 => pr_sortable (by omega) hp hij fun o e => ?_) fun out h1 h2 => ⟨.none, rfl, ?_⟩) (PyProof.Rows.args_list_sort _)
  · have e' : some o = some (seqObj "list" its.toArray n) := e.symm.trans hob
    cases e'
    intro c
    exact absurd (Value.type.inj c) (by decide)
  · have h3 : ∀ u ∈ out, ∃ a, u = Value.ref a := fun u hu => e2 u (h2.perm.mem_iff.mp hu)
    obtain ⟨ep, he'⟩ := PyProof.Rows.sortedHeap_at (vs := its) (out := out.toArray) hob
    have hperm : (out.map backV).Perm ys := by
      rw [e1]
      exact h2.perm.map _
    have hlen : (out.map backV).length ≤ sizeLine := by
      rw [hperm.length_eq]
      exact hz
    have hup : ((out.map backV).map k).Pairwise (· ≤ ·) := by
      rw [List.map_map]
      exact List.pairwise_map.mpr (h1.imp fun {x y} h => Int.not_lt.mp (of_decide_eq_false (p := k (backV y) < k (backV x)) h))
    refine ⟨.non, upd H a (.lst (out.map backV)), I.write (e := a) (t' := s.toks) (by rw [ha]; trivial) (.inl rfl) (fun b u hb hu => ?_) ⟨_, he'⟩ ⟨hlen, out, ep, vals_back h3, he'⟩, rfl, q _ hperm hup⟩
    rw [PyProof.Rows.sortedHeap_old hb (Heap.lt_size hu)]; exact hu
/-- a tuple of a key and its value -/
def PrAt (H : Hp) (x : V) (q : Int × V) : Prop := ∃ t, x = .ref t ∧ H t = some (.tup [.int q.1, q.2])
def prKV (kvs : List (Int × V)) : List (L2.Key × V) := kvs.map fun q => (.inl q.1, q.2)
def rSortPK (K : PySem.W.Frag) : List V → Hp → VK → Prop := fun vs H Q => ∃ (p a : Addr) (kvs : List (Int × V)), vs = [.ref p] ∧ H p = some (itemsO p a) ∧ H a = some (.dK (prKV kvs)) ∧ (kvs.map (·.1)).Nodup ∧
  ∀ (l : Addr) (zs : List (Int × V)) (ys : List V) (H' : Hp), H l = none → Same H H' → H' l = some (.lst ys) → Paired (PrAt H') ys zs → zs.Perm kvs → (zs.map (·.1)).Pairwise (· ≤ ·) → Q (.ref l) H'
def prK (H : Hp) : V → Int
  | .ref t => match H t with
    | some (.tup [.int i, _]) => i
    | _ => 0
  | _ => 0
def prV (H : Hp) : V → V
  | .ref t => match H t with
    | some (.tup [_, v]) => v
    | _ => .non
  | _ => .non
theorem prK_of {H : Hp} {x : V} {q : Int × V} (h : PrAt H x q) : prK H x = q.1 ∧ prV H x = q.2 := by
  obtain ⟨t, rfl, e⟩ := h
  constructor
  · show (match H t with | some (.tup [.int i, _]) => i | _ => (0 : Int)) = q.1
    rw [e]
  · show (match H t with | some (.tup [_, v]) => v | _ => V.non) = q.2
    rw [e]
theorem pr_paired {H : Hp} : ∀ {ts : List Addr} {kvs : List (Int × V)}, Paired (fun (t : Addr) (q : L2.Key × V) => H t = some (.tup [kV q.1, q.2])) ts (prKV kvs) → Paired (PrAt H) (ts.map V.ref) kvs
  | _, [], .nil => .nil
  | _, _ :: _, .cons h t => .cons ⟨_, rfl, h⟩ (pr_paired t)
theorem pr_maps {H : Hp} : ∀ {xs : List V} {qs : List (Int × V)}, Paired (PrAt H) xs qs → xs.map (prK H) = qs.map (·.1) ∧ xs.map (fun x => (prK H x, prV H x)) = qs ∧ ∀ x ∈ xs, PrAt H x (prK H x, prV H x)
  | _, _, .nil => ⟨rfl, rfl, fun _ h => nomatch h⟩
  | _, _, .cons (a := x) (b := q) h t => by
    obtain ⟨h1, h2, h3⟩ := pr_maps t
    obtain ⟨e1, e2⟩ := prK_of h
    refine ⟨by rw [List.map_cons, List.map_cons, e1, h1], by rw [List.map_cons, e1, e2, h2], fun y hy => ?_⟩
    rcases List.mem_cons.mp hy with e | hy
    · subst e
      rw [e1, e2]; exact h
    · exact h3 y hy
theorem pr_back {H : Hp} : ∀ {zs : List V}, (∀ z ∈ zs, PrAt H z (prK H z, prV H z)) → Paired (PrAt H) zs (zs.map fun z => (prK H z, prV H z))
  | [], _ => .nil
  | z :: zs, h => .cons (h z List.mem_cons_self) (pr_back fun y hy => h y (List.mem_cons_of_mem _ hy))
theorem inj_nodup {α : Type} {f : α → Int} : ∀ {l : List α}, (l.map f).Nodup → ∀ {a b : α}, a ∈ l → b ∈ l → f a = f b → a = b
  | [], _, _, _, h, _, _ => nomatch h
  | x :: l, hn, a, b, ha, hb, e => by
    rw [List.map_cons, List.nodup_cons] at hn
    by_cases h1 : a = x
    · by_cases h2 : b = x
      · rw [h1, h2]
      · have hb2 := (List.mem_cons.mp hb).resolve_left h2
        exact absurd (List.mem_map.mpr ⟨b, hb2, by rw [← e, h1]⟩) hn.1
    · have ha2 := (List.mem_cons.mp ha).resolve_left h1
      by_cases h2 : b = x
      · exact absurd (List.mem_map.mpr ⟨a, ha2, by rw [e, h2]⟩) hn.1
      · exact inj_nodup hn.2 ha2 ((List.mem_cons.mp hb).resolve_left h2) e
theorem cr_sortPK (hc : X.calm = true) (e : X.K = K := by rfl) : CallR X (.builtin "sorted") (rSortPK K) := by
  subst e
  intro pins s σ H xs us Q I r h
  obtain ⟨p, a, kvs, rfl, hp, ha, hnd, k⟩ := h
  obtain rfl := Vals.ref1 r
  have view : s.heap.IsItemsView p a := (show ObjOk X.prog X.w H s.heap p (itemsO p a) from I.hok p _ hp).1
  obtain ⟨hz, hs0, vs, kv, hdo⟩ := I.hok a _ ha
  have lk : (prKV kvs).length = vs.length := Paired.length kv
  obtain ⟨o, es, ep, ho, hx, hdat, hko, hps, hnd'⟩ := hdo
  have les : es.size = vs.length := by rw [← Array.length_toList]; exact hps.length
  have hh : X.A.handled = none := I.ok.hd hc
  refine DT.sortedI (es := es) (ep := ep) hh view ⟨o, ho, hx, hdat⟩ (by omega) fun h' tk as hk hlt hl hM => ?_
  have hG : PySem.W.KdxG (mixKind X.prog X.w) vs s.heap.objs.size h' as := by
    refine ⟨hM.rise, hM.above, fun j b hj => ?_⟩
    obtain ⟨en, he, hg⟩ := hM.pairs j b hj
    rw [← Array.getElem?_toList] at he
    have hjl : j < vs.length := by
      have := (List.getElem?_eq_some_iff.mp hj).1
      omega
    have hv : vs[j]? = some ((vs[j]).1, (vs[j]).2) := List.getElem?_eq_getElem hjl
    obtain ⟨q1, q2⟩ := hps.get? he hv
    exact ⟨en.key, (vs[j]).1, (vs[j]).2, hv, q1, by rw [hg, q2]⟩
  have hpush : ∀ b o, h'.get? b = some o → (h'.push { cls := .type "list", data := .seq (as.map Value.ref).toArray }).get? b = some o := fun b o e => Heap.get?_push_of_some _ e
  obtain ⟨H', k1, k2, k4, k5, J⟩ := items_laid2 (tk := tk) (S := h'.objs.size) I hz kv (fun b o e => hpush _ _ (hk b o e)) (Heap.get?_push_size _ rfl) (Nat.le_of_lt hlt)
    (fun z => Nat.lt_irrefl _ (hG.there z)) (by omega) ⟨hG.rise, hG.above, fun j a e => by
      obtain ⟨key, q, x, f1, f2, f3⟩ := hG.pairs j a e
      exact ⟨key, q, x, f1, f2, hpush _ _ f3⟩⟩
  have pp := pr_paired k5
  obtain ⟨m1, m2, m3⟩ := pr_maps pp
  have inj : ∀ y ∈ as.map V.ref, ∀ z ∈ as.map V.ref, prK H' y = prK H' z → y = z := fun y hy z hz e => by
    have hn : ((as.map V.ref).map (prK H')).Nodup := by rw [m1]; exact hnd
    exact inj_nodup hn hy hz e
  have st := mt_sortPr (X := { X with A := X.A.in1 }) pins _ σ H' (.ref h'.objs.size) [] (.ref h'.objs.size) [] (fun _ H2 => Q (.ref h'.objs.size) H2) (inv_around J _ rfl rfl) rfl .nil
    ⟨_, _, prK H', rfl, rfl, k4, fun y hy => by
      obtain ⟨t, e1, e2⟩ := m3 y hy
      exact ⟨t, _, e1, e2⟩, inj, fun zs h1 h2 => ?_⟩
  · refine wpAny_mono st (fun u s' x => ?_) fun _ _ e => e
    obtain ⟨v, H2, J2, rv, q2⟩ := x
    exact ⟨.ref h'.objs.size, H2, inv_back J2 rfl rfl, rfl, q2⟩
  · have m4 : ∀ y ∈ zs, PrAt H' y (prK H' y, prV H' y) := fun y hy => m3 y (h1.mem_iff.mp hy)
    have mv : ∀ y ∈ zs, PrAt (upd H' h'.objs.size (.lst zs)) y (prK H' y, prV H' y) := fun y hy => by
      obtain ⟨t, e1, e2⟩ := m4 y hy
      have nt : t ≠ h'.objs.size := fun z => by
        rw [z, k4] at e2
        cases e2
      exact ⟨t, e1, by rw [upd_ne nt]; exact e2⟩
    have pz : ∀ {ws : List V}, (∀ y ∈ ws, PrAt (upd H' h'.objs.size (.lst zs)) y (prK H' y, prV H' y)) → Paired (PrAt (upd H' h'.objs.size (.lst zs))) ws (ws.map fun z => (prK H' z, prV H' z)) := fun {ws} => by
      induction ws with
      | nil => exact fun _ => .nil
      | cons z r ih => exact fun h => .cons (h z List.mem_cons_self) (ih fun y hy => h y (List.mem_cons_of_mem _ hy))
    refine k h'.objs.size (zs.map fun z => (prK H' z, prV H' z)) zs _ k2 (fun b o e => ?_) upd_same (pz mv) ?_ ?_
    · rw [upd_ne (ne_of_none e k2)]
      exact k1 b o e
    · rw [← m2]
      exact h1.map _
    · rw [List.map_map]; exact h2
end
/-! ### for x in reversed(xs) -/
section
variable {K : PySem.W.Frag} {g : TG} {ts : TS} {D : Ends} {σ : L2.St} {H : Hp} {a : Addr} {xs : List V}
def ForV (K : PySem.W.Frag) (g : TG) (ts : TS) (D : Ends) (σ : L2.St) (vs : List V) (H : Hp) : Prop :=
  ∃ (a : Addr) (xs : List V), vs = [.ref a] ∧ SqL K H a xs ∧ ∃ W : Nat → Nat → L2.St → Hp → Prop, (∃ m, W 0 m σ H) ∧ ∀ i m σ H, W i m σ H →
    ((Itv K a xs.length).stop i H ∧ D.nx σ H) ∨ ((Itv K a xs.length).go i H ∧ ∃ N : L2.St → Hp → Prop, (∀ σ' H', N σ' H' → ∃ m', m' < m ∧ W (i + 1) m' σ' H') ∧
      ∀ x H', (Itv K a xs.length).yld i H x H' → J.Turn g ts D N x σ H')
theorem r_forV {ta : TA} (k : ta σ H fun vs H1 => ForV K g ts D σ vs H1) : tFor (iRev K ta) g ts D σ H := k
theorem forV (h : SqL K H a xs) (Pv : Nat → L2.St → Hp → Prop) (h0 : Pv 0 σ H) (hl : ∀ i σ H, i ≤ xs.length → Pv i σ H → SqL K H a xs)
    (hs : ∀ i x σ H, xs[xs.length - 1 - i]? = some x → i < xs.length → Pv i σ H → J.Turn g ts D (Pv (i + 1)) x σ H) (hd : ∀ σ H, Pv xs.length σ H → D.nx σ H) : ForV K g ts D σ [.ref a] H := by
  refine ⟨a, xs, rfl, h, fun i m σ H => m = xs.length - i ∧ i ≤ xs.length ∧ Pv i σ H, ⟨_, rfl, Nat.zero_le _, h0⟩, ?_⟩
  rintro i m σ H ⟨rfl, hi, p⟩
  have q := hl i σ H hi p
  by_cases hlt : i < xs.length
  · have hj : xs.length - 1 - i < xs.length := by omega
    refine .inr ⟨⟨hlt, xs, xs[xs.length - 1 - i], q, List.getElem?_eq_getElem hj⟩, Pv (i + 1), fun σ' H' p' => ⟨xs.length - (i + 1), by omega, rfl, hlt, p'⟩, fun x H' y => ?_⟩
    obtain ⟨rfl, e⟩ := y
    exact hs i x σ _ (e xs q) hlt p
  · have e : i = xs.length := by omega
    subst e
    exact .inl ⟨Nat.le_refl _, hd σ H p⟩
end
end J

set_option Elab.async false
set_option linter.all false
set_option maxRecDepth 100000
set_option maxHeartbeats 4000000
namespace J
open PySem PySem.Spec L2 L2.DX PyProof.Rows
/-! ### sorted(d.items()), that the keys differ is told behind it -/
def rSortPN (K : PySem.W.Frag) : List V → Hp → VK → Prop := fun vs H Q => ∃ (p a : Addr) (kvs : List (Int × V)), vs = [.ref p] ∧ H p = some (itemsO p a) ∧ H a = some (.dK (prKV kvs)) ∧
  ∀ (l : Addr) (zs : List (Int × V)) (ys : List V) (H' : Hp), H l = none → Same H H' → H' l = some (.lst ys) → Paired (PrAt H') ys zs → zs.Perm kvs → (zs.map (·.1)).Pairwise (· ≤ ·) → (kvs.map (·.1)).Nodup → Q (.ref l) H'
theorem kv_keys : ∀ {a : List (L2.Key × V)} {b : List (L2.Key × Value)}, KV a b → a.map (·.1) = b.map (·.1)
  | [], [], .nil => rfl
  | _ :: _, _ :: _, .cons h t => by rw [List.map_cons, List.map_cons, h.1, kv_keys t]
section
variable {X : Cx} {K : PySem.W.Frag}
theorem cr_sortPN (hc : X.calm = true) (e : X.K = K := by rfl) : CallR X (.builtin "sorted") (rSortPN K) := by
  subst e
  intro pins s σ H xs us Q I r h
  obtain ⟨p, a, kvs, rfl, hp, ha, k⟩ := h
  obtain rfl := Vals.ref1 r
  have view : s.heap.IsItemsView p a := (show ObjOk X.prog X.w H s.heap p (itemsO p a) from I.hok p _ hp).1
  obtain ⟨hz, hs0, vs, kv, hdo⟩ := I.hok a _ ha
  have lk : (prKV kvs).length = vs.length := Paired.length kv
  obtain ⟨o, es, ep, ho, hx, hdat, hko, hps, hnd'⟩ := hdo
  have hnd : (kvs.map (·.1)).Nodup := by
    have e : (prKV kvs).map (·.1) = (kvs.map (·.1)).map Sum.inl := by
      unfold prKV
      rw [List.map_map, List.map_map]; rfl
    have hn := hnd'
    rw [← kv_keys kv, e] at hn
    exact (List.pairwise_map.mp hn).imp fun h z => h (congrArg Sum.inl z)
  have les : es.size = vs.length := by rw [← Array.length_toList]; exact hps.length
  have hh : X.A.handled = none := I.ok.hd hc
  refine DT.sortedI (es := es) (ep := ep) hh view ⟨o, ho, hx, hdat⟩ (by omega) fun h' tk as hk hlt hl hM => ?_
  have hG : PySem.W.KdxG (mixKind X.prog X.w) vs s.heap.objs.size h' as := by
    refine ⟨hM.rise, hM.above, fun j b hj => ?_⟩
    obtain ⟨en, he, hg⟩ := hM.pairs j b hj
    rw [← Array.getElem?_toList] at he
    have hjl : j < vs.length := by
      have := (List.getElem?_eq_some_iff.mp hj).1
      omega
    have hv : vs[j]? = some ((vs[j]).1, (vs[j]).2) := List.getElem?_eq_getElem hjl
    obtain ⟨q1, q2⟩ := hps.get? he hv
    exact ⟨en.key, (vs[j]).1, (vs[j]).2, hv, q1, by rw [hg, q2]⟩
  have hpush : ∀ b o, h'.get? b = some o → (h'.push { cls := .type "list", data := .seq (as.map Value.ref).toArray }).get? b = some o := fun b o e => Heap.get?_push_of_some _ e
  obtain ⟨H', k1, k2, k4, k5, J⟩ := items_laid2 (tk := tk) (S := h'.objs.size) I hz kv (fun b o e => hpush _ _ (hk b o e)) (Heap.get?_push_size _ rfl) (Nat.le_of_lt hlt)
    (fun z => Nat.lt_irrefl _ (hG.there z)) (by omega) ⟨hG.rise, hG.above, fun j a e => by
      obtain ⟨key, q, x, f1, f2, f3⟩ := hG.pairs j a e
      exact ⟨key, q, x, f1, f2, hpush _ _ f3⟩⟩
  have pp := pr_paired k5
  obtain ⟨m1, m2, m3⟩ := pr_maps pp
  have inj : ∀ y ∈ as.map V.ref, ∀ z ∈ as.map V.ref, prK H' y = prK H' z → y = z := fun y hy z hz e => by
    have hn : ((as.map V.ref).map (prK H')).Nodup := by rw [m1]; exact hnd
    exact inj_nodup hn hy hz e
  have st := mt_sortPr (X := { X with A := X.A.in1 }) pins _ σ H' (.ref h'.objs.size) [] (.ref h'.objs.size) [] (fun _ H2 => Q (.ref h'.objs.size) H2) (inv_around J _ rfl rfl) rfl .nil
    ⟨_, _, prK H', rfl, rfl, k4, fun y hy => by
      obtain ⟨t, e1, e2⟩ := m3 y hy
      exact ⟨t, _, e1, e2⟩, inj, fun zs h1 h2 => ?_⟩
  · refine wpAny_mono st (fun u s' x => ?_) fun _ _ e => e
    obtain ⟨v, H2, J2, rv, q2⟩ := x
    exact ⟨.ref h'.objs.size, H2, inv_back J2 rfl rfl, rfl, q2⟩
  · have m4 : ∀ y ∈ zs, PrAt H' y (prK H' y, prV H' y) := fun y hy => m3 y (h1.mem_iff.mp hy)
    have mv : ∀ y ∈ zs, PrAt (upd H' h'.objs.size (.lst zs)) y (prK H' y, prV H' y) := fun y hy => by
      obtain ⟨t, e1, e2⟩ := m4 y hy
      have nt : t ≠ h'.objs.size := fun z => by
        rw [z, k4] at e2
        cases e2
      exact ⟨t, e1, by rw [upd_ne nt]; exact e2⟩
    have pz : ∀ {ws : List V}, (∀ y ∈ ws, PrAt (upd H' h'.objs.size (.lst zs)) y (prK H' y, prV H' y)) → Paired (PrAt (upd H' h'.objs.size (.lst zs))) ws (ws.map fun z => (prK H' z, prV H' z)) := fun {ws} => by
      induction ws with
      | nil => exact fun _ => .nil
      | cons z r ih => exact fun h => .cons (h z List.mem_cons_self) (ih fun y hy => h y (List.mem_cons_of_mem _ hy))
    refine k h'.objs.size (zs.map fun z => (prK H' z, prV H' z)) zs _ k2 (fun b o e => ?_) upd_same (pz mv) ?_ ?_ hnd
    · rw [upd_ne (ne_of_none e k2)]
      exact k1 b o e
    · rw [← m2]
      exact h1.map _
    · rw [List.map_map]; exact h2
end
end J

set_option Elab.async false
set_option linter.all false
set_option maxRecDepth 100000
set_option maxHeartbeats 4000000
namespace J
open PySem PySem.Spec L2 L2.DX PyProof.Rows
/-! ### for k in d, the dict locked meanwhile -/
def FrD (D : Ends) (d : Addr) (o : Obj) (u : HO) : Ends := ⟨fun σ' H' => H' d = some (.frz o u) ∧ D.nx σ' (upd H' d u), fun v H' => H' d = some (.frz o u) ∧ D.rt v (upd H' d u), fun σ' H' => H' d = some (.frz o u) ∧ D.bk σ' (upd H' d u), fun σ' H' => H' d = some (.frz o u) ∧ D.ct σ' (upd H' d u)⟩
def OverI (J : It) (g : TG) (ts : TS) (Df : Ends) (σ : L2.St) (H1 : Hp) : Prop := ∃ W : Nat → Nat → L2.St → Hp → Prop, (∃ m, W 0 m σ H1) ∧ ∀ i m σ H, W i m σ H →
  (J.stop i H ∧ Df.nx σ H) ∨ (J.go i H ∧ ∃ N : L2.St → Hp → Prop, (∀ σ' H', N σ' H' → ∃ m', m' < m ∧ W (i + 1) m' σ' H') ∧ ∀ x H', J.yld i H x H' → g x σ H' fun σ2 H2 => ts { Df with nx := N, ct := N, bk := Df.nx } σ2 H2)
def KeysX (g : TG) (ts : TS) (Df : Ends) (σ : L2.St) (x : V) (H1 : Hp) : Prop := ∃ d o, x = .ref d ∧ ((∃ kvs, H1 d = some (.frz o (.dK kvs)) ∧ OverI (Itk d o kvs) g ts Df σ H1) ∨ ∃ kvs, H1 d = some (.frz o (.dT kvs)) ∧ OverI (Itkt d o kvs) g ts Df σ H1)
section
variable {K : PySem.W.Frag} {g : TG} {ts : TS} {D Df : Ends} {σ : L2.St} {H : Hp} {d : Addr} {kvs : List (L2.Key × V)} {td : TE}
theorem r_forK (hd : H d = some (.dK kvs)) (k : ∀ o H0, H0 d = some (.frz o (.dK kvs)) → (∀ b, b ≠ d → H0 b = H b) → td σ H0 fun x H1 => KeysX g ts (FrD D d o (.dK kvs)) σ x H1) : tLock (tFor (iKeys td) g ts) D σ H :=
  ⟨d, .dK kvs, hd, trivial, fun od => k od _ upd_same (fun b n => upd_ne n)⟩
theorem forK {o : Obj} (h : H d = some (.frz o (.dK kvs))) (Pv : Nat → L2.St → Hp → Prop) (h0 : Pv 0 σ H) (hl : ∀ i σ H, i ≤ kvs.length → Pv i σ H → H d = some (.frz o (.dK kvs)))
    (hs : ∀ Df i k v σ H, kvs[i]? = some (k, v) → Pv i σ H → J.Turn g ts Df (Pv (i + 1)) (kV k) σ H) (hd : ∀ σ H, Pv kvs.length σ H → D.nx σ (upd H d (.dK kvs))) : KeysX g ts (FrD D d o (.dK kvs)) σ (.ref d) H := by
  refine ⟨d, o, rfl, .inl ⟨kvs, h, fun i m σ H => m = kvs.length - i ∧ i ≤ kvs.length ∧ Pv i σ H, ⟨_, rfl, Nat.zero_le _, h0⟩, ?_⟩⟩
  rintro i m σ H ⟨rfl, hi, p⟩
  have q := hl i σ H hi p
  by_cases hlt : i < kvs.length
  · refine .inr ⟨⟨q, hlt⟩, Pv (i + 1), fun σ' H' p' => ⟨kvs.length - (i + 1), by omega, rfl, hlt, p'⟩, fun x H' y => ?_⟩
    obtain ⟨rfl, k, v, e, rfl⟩ := y
    exact hs _ i k v σ _ e p
  · have e : i = kvs.length := by omega
    subst e
    exact .inl ⟨⟨q, Nat.le_refl _⟩, q, hd σ H p⟩
/-- the frame about a locked dict -/
theorem but_lock {S : List Addr} {H0 H' : Hp} {o : Obj} (hd : H d = some (.dK kvs)) (h0 : H0 d = some (.frz o (.dK kvs))) (he : ∀ b, b ≠ d → H0 b = H b) (b : But S H0 H') : But S H (upd H' d (.dK kvs)) := by
  refine ⟨fun x ox e n => ?_, fun x ox e i => ?_, fun x e => ?_⟩
  · by_cases hx : x = d
    · subst hx
      rw [upd_same, ← hd]; exact e
    · rw [upd_ne hx]
      exact b.keep x ox (by rw [he x hx]; exact e) n
  · by_cases hx : x = d
    · subst hx
      rw [hd] at e
      cases e
      exact absurd i id
    · rw [upd_ne hx]
      exact b.imm x ox (by rw [he x hx]; exact e) i
  · by_cases hx : x = d
    · subst hx
      rw [upd_same]; exact fun z => nomatch z
    · rw [upd_ne hx]
      exact b.live x (by rw [he x hx]; exact e)
/-- what stands off the locked dict -/
theorem DGet.fz {H0 : Hp} {o : Obj} {k : L2.Key} (h : H0 d = some (.frz o (.dK kvs))) : DGet H0 d (kV k) (valV kvs k) := .inl ⟨kvs, k, .inr ⟨o, h⟩, rfl, rfl⟩
theorem r_dAtF {H0 : Hp} {o : Obj} {k : Int} {v : V} {Q : VK} (h : H0 d = some (.frz o (.dK kvs))) (e : valV kvs (.inl k) = some v) (q : Q v H0) : DAt (.ref d) (.int k) H0 Q := ⟨d, v, rfl, e ▸ DGet.fz (k := .inl k) h, q⟩
end
/-- o.m(), its frag told (for a comprehension's element) -/
theorem pe_bm0A {X : Cx} {K : PySem.W.Frag} {T name id : String} {o : Expr} {apos cpos : Pos} {to : TE} {r : V → List V → Hp → VK → Prop} (e : X.K = K) (pa : PlainAttrs T) (slot : Slot T name id) (hty : typeOf (.builtin id) = pure (.type "method_descriptor")) (hm : MtR X id r) (ho : PE X o to)
    (hbase : attributeBase o name X.env (eval o X.env) = eval o X.env := by rfl) (hline : (apos.endLine == cpos.line) = true := by rfl) : PE X (.Call (.Attribute o name apos) [] [] cpos) (tBM0 K T r to) := by
  subst e
  exact pe_bm0 pa slot hty hm ho hbase hline
end J

set_option Elab.async false
set_option linter.all false
set_option maxRecDepth 100000
set_option maxHeartbeats 4000000
namespace J
open PySem PySem.Spec L2 PyProof.Rows
/-! ### max(d), d with int keys -/
def rMaxDI : List V → Hp → VK → Prop := fun xs H Q => ∃ (a : Addr) (kvs : List (L2.Key × V)) (ks : List Int), xs = [.ref a] ∧ H a = some (.dK kvs) ∧ kvs.map (·.1) = ks.map Sum.inl ∧ 0 < ks.length ∧ ∀ m, m ∈ ks → (∀ y, y ∈ ks → y ≤ m) → Q (.int m) H
theorem cr_maxDI {X : Cx} (hc : X.calm = true) : CallR X (.builtin "max") rMaxDI := by
  intro pins s σ H xs us Q I r q
  obtain ⟨a, kvs, ks, ex, hd, hks, hne, q⟩ := q
  subst ex
  obtain ⟨u, eu, rx⟩ := vals1 r
  subst eu
  cases rx
  obtain ⟨z, lo, vs, rel, dd⟩ := dk_rd I.hok (.inl hd)
  obtain ⟨ep, hat⟩ := dd.dictAt
  have hkeys : vs.map (·.1) = ks.map Sum.inl := rel.keys.symm.trans hks
  have hl : vs.length = ks.length := by
    have e := congrArg List.length hkeys
    rw [List.length_map, List.length_map] at e
    exact e
  have ha : a < s.heap.objs.size := hat.lt_size
  have hP : ∀ (i : Nat) (v : Value), (∃ k x, vs[i]? = some (k, x) ∧ (mixKind X.prog X.w).is k v = true) → ∃ t, v = .int (ks.getD i 0) t := by
    rintro i v ⟨k, x, hx, hk⟩
    have h1 : (vs.map (·.1))[i]? = some k := by rw [List.getElem?_map, hx]; rfl
    rw [hkeys, List.getElem?_map] at h1
    obtain ⟨n, hn, rfl⟩ := Option.map_eq_some_iff.mp h1
    have e3 : ks.getD i 0 = n := by rw [List.getD_eq_getElem?_getD, hn]; rfl
    rw [e3]
    exact relV_key (show keyIs (Sum.inl n) v = true from hk)
  refine call_max_walk ?_
  refine wpAny_pyIter_dict lo hat ?_
  refine ⟨s.heap.objs.size, _, _, vs.length, _, _, fun i j => decide (ks.getD i 0 > ks.getD j 0), rfl, Walks.dictKeys (A := X.A.in1) (knd := mixKind X.prog X.w) (show X.A.in1.handled = none from I.ok.hd hc) s.heap.objs.size a (Nat.ne_of_lt ha) vs ep, ⟨⟨_, Heap.get?_push_size _ rfl, rfl, rfl⟩, hat.push _⟩, fun b hb => ?_, by omega, CmpOf.ints_gt (fun i => ks.getD i 0) hP, fun v h' tk hv hk => ?_⟩
  · show b < (s.heap.push _).objs.size
    rw [size_push']
    rcases List.mem_cons.mp hb with z | z
    · rw [z]
      exact Nat.lt_succ_self _
    · rw [List.mem_singleton.mp z]
      exact Nat.lt_succ_of_lt ha
  · obtain ⟨t, rfl⟩ := hP _ _ hv
    obtain ⟨m1', m2'⟩ := argBest_gt (fun i => ks.getD i 0) (vs.length - 1)
    have m1 : argBest (fun i j => decide (ks.getD i 0 > ks.getD j 0)) (vs.length - 1) ≤ vs.length - 1 := m1'
    have m2 : ∀ j, j ≤ vs.length - 1 → ks.getD j 0 ≤ ks.getD (argBest (fun i j => decide (ks.getD i 0 > ks.getD j 0)) (vs.length - 1)) 0 := m2'
    have hk2 : ∀ b o, s.heap.get? b = some o → h'.get? b = some o := fun b o e => hk b o (fun z => by rw [List.mem_singleton.mp z] at e; exact absurd (Heap.lt_size e) (Nat.lt_irrefl _)) (Heap.get?_push_of_some _ e)
    refine ⟨.int _, H, I.kept (t' := tk) hk2, ⟨t, rfl⟩, q _ (PySem.getD_mem (by omega)) fun y hy => ?_⟩
    obtain ⟨j, hj, e⟩ := List.mem_iff_getElem.mp hy
    have z := m2 j (by omega)
    have e3 : ks.getD j 0 = y := by rw [List.getD_eq_getElem?_getD, List.getElem?_eq_getElem hj, ← e] <;> rfl
    rw [e3] at z
    exact z
end J

set_option Elab.async false
set_option linter.all false
set_option maxRecDepth 100000
set_option maxHeartbeats 4000000
namespace J
open PySem PySem.Spec L2 PyProof.Rows
/-! ### isinstance(e, C), e.f of a caught exception, its class told where it is read -/
def DictAt (H : Hp) (d : Option Addr) : Prop := ∀ dd, d = some dd → ∃ fs, H dd = some (.xd fs)
def rIsX (K : PySem.W.Frag) (cls : Value) (d : Option Addr) (a : Addr) : List V → Hp → VK → Prop := fun xs H Q => ∃ (D : Addr) (c : V) (cv : Value) (b : Bool), cls = .ref D ∧ ExcC K D ∧ xs = [.ref a, c] ∧ DictAt H d ∧ (∀ u, RelV c u → u = cv) ∧ PySem.W.kitOne K (.ref D) cv = some b ∧ Q (.bl b) H
theorem call_isX {X : Cx} {K : PySem.W.Frag} {a : Addr} {cls : Value} {oe : Obj} {d : Option Addr} (hp : (a, oe) ∈ X.pn) (hz : Zc cls d oe) (hf : ∃ vs, oe.data = .fields vs) (eK : X.K = K := by rfl) : CallR X (.builtin "isinstance") (rIsX K cls d a) := by
  subst eK
  intro pins s σ H xs us Q I r h
  obtain ⟨D, c, cv, b, rfl, C, rfl, hd, hcv, e, q⟩ := h
  cases r with
  | cons rx rr =>
    cases rr with
    | cons rt rr =>
      cases rr
      cases rx
      have ec := hcv _ rt
      subst ec
      obtain ⟨hget, _⟩ := I.pin (a, oe) (List.mem_append.mpr (.inl hp))
      obtain ⟨vs, hv⟩ := hf
      have J : ∃ od : Option Obj, PySem.W.InstAt s.heap a oe D od := by
        obtain ⟨oc, odd, oda, osl⟩ := oe
        obtain ⟨h1, h2⟩ := hz
        dsimp only at h1 h2 hv
        subst h1 h2 hv
        cases odd with
        | none => exact ⟨none, hget, rfl, rfl, trivial⟩
        | some dd =>
          obtain ⟨fs, hfs⟩ := hd dd rfl
          have hx : ObjOk X.prog X.w H s.heap dd (.xd fs) := I.hok dd _ hfs
          obtain ⟨mA, hns, hr⟩ := hx
          obtain ⟨od, ho, hl⟩ := lookIn_ns hns
          exact ⟨some od, hget, rfl, rfl, ho⟩
      obtain ⟨od, J⟩ := J
      obtain ⟨cd, hc, _⟩ := PySem.W.any_some C.hd
      exact PySem.W.kia_one (PySem.W.kitx_exc (by rw [hc]; rfl) C.hg C.hk C.hs C.ha C.hn C.ht C.hm) I.kIn J e (fun z => nomatch z) fun tk => ⟨.bl b, H, I.kept (t' := tk) fun _ _ z => z, rfl, q⟩
/-- e.f -/
def tXf2 (K : PySem.W.Frag) (a : Addr) (cls : Value) (d : Option Addr) (f : Str) (te : TE) : TE := fun σ H Q => te σ H fun x H1 => x = .ref a ∧ ∃ (C dd : Addr) (fs : List (Str × V)) (v : V), cls = .ref C ∧ XfC K C ∧ PySem.W.findIn K (.ref C) f = some none ∧ d = some dd ∧ H1 dd = some (.xd fs) ∧ fs.lookup f = some v ∧ Q v H1
theorem pe_xf2 {X : Cx} {K : PySem.W.Frag} {a : Addr} {oe : Obj} {cls : Value} {d : Option Addr} {e : Expr} {te : TE} {pos : Pos} {n : Str} (hp : (a, oe) ∈ X.pn)
    (hz : Zc cls d oe) (hf : ∃ vs, oe.data = .fields vs) (he : PE X e te) (hb : attributeBase e n X.env (eval e X.env) = eval e X.env := by rfl) (eK : X.K = K := by rfl) :
    PE X (.Attribute e n pos) (tXf2 K a cls d n te) := by
  subst eK
  refine ⟨fun pins s σ H Q I h => ?_⟩
  refine attr_of hb (thn (he.run pins s σ H _ I h) fun u s1 hh => ?_)
  obtain ⟨x, H1, I1, rx, ex, C, dd, fs, v, ec, T, hno, ed, ea, l, q⟩ := hh
  subst ex
  obtain rfl : u = Value.ref a := rx
  subst ec
  subst ed
  obtain ⟨ha, _⟩ := I1.pin (a, oe) (List.mem_append_left _ hp)
  obtain ⟨vs, hd⟩ := hf
  have hx : ObjOk X.prog X.w H1 s1.heap dd (.xd fs) := I1.hok dd _ ea
  obtain ⟨mA, hns, hr⟩ := hx
  obtain ⟨od, ho, hl⟩ := lookIn_ns hns
  obtain ⟨u, hu, ru⟩ := RelO.some_of (v := v) (o := mA n) (by rw [← l]; exact hr n)
  have J : PySem.W.InstAt s1.heap a oe C (some od) := ⟨ha, hz.1, by unfold PySem.W.notCls; rw [hd] <;> rfl, by rw [hz.2]; exact ho⟩
  exact HandSPX.exc_get I1.kIn J T.ga T.gg T.exC (PySem.W.findObj_own T.hdC hno rfl (by rw [hl, hu])) (handed_of ru) ⟨v, H1, I1.tok _, ru, q⟩
theorem r_xf2 {K : PySem.W.Frag} {a C : Addr} {d : Addr} {f : Str} {te : TE} {σ : L2.St} {H : Hp} {Q : VK} (k : te σ H fun x H1 => x = .ref a ∧ ∃ (C' dd : Addr) (fs : List (Str × V)) (v : V), (.ref C : Value) = .ref C' ∧ XfC K C' ∧ PySem.W.findIn K (.ref C') f = some none ∧ some d = some dd ∧ H1 dd = some (.xd fs) ∧ fs.lookup f = some v ∧ Q v H1) : tXf2 K a (.ref C) (some d) f te σ H Q := k
theorem r_xf2At {K : PySem.W.Frag} {a C d : Addr} {fs : List (Str × V)} {f : Str} {v : V} {H1 : Hp} {Q : VK} (T : XfC K C) (hn : PySem.W.findIn K (.ref C) f = some none) (h : H1 d = some (.xd fs)) (l : fs.lookup f = some v) (k : Q v H1) :
    V.ref a = .ref a ∧ ∃ (C' dd : Addr) (fs : List (Str × V)) (v : V), (.ref C : Value) = .ref C' ∧ XfC K C' ∧ PySem.W.findIn K (.ref C') f = some none ∧ some d = some dd ∧ H1 dd = some (.xd fs) ∧ fs.lookup f = some v ∧ Q v H1 := ⟨rfl, C, d, fs, v, rfl, T, hn, rfl, h, l, k⟩
theorem r_isXTy {K : PySem.W.Frag} {a D d : Addr} {T : String} {fs : List (Str × V)} {b : Bool} {H : Hp} {Q : VK} (C : ExcC K D) (h : H d = some (.xd fs)) (e : PySem.W.kitOne K (.ref D) (.type T) = some b) (q : Q (.bl b) H) : rIsX K (.ref D) (some d) a [.ref a, .ty T] H Q :=
  ⟨D, .ty T, .type T, b, rfl, C, rfl, fun dd e => by cases e; exact ⟨fs, h⟩, fun u r => r, e, q⟩
theorem r_isXCl {K : PySem.W.Frag} {a D d c : Addr} {fs : List (Str × V)} {b : Bool} {H : Hp} {Q : VK} (C : ExcC K D) (h : H d = some (.xd fs)) (e : PySem.W.kitOne K (.ref D) (.ref c) = some b) (q : Q (.bl b) H) : rIsX K (.ref D) (some d) a [.ref a, .ref c] H Q :=
  ⟨D, .ref c, .ref c, b, rfl, C, rfl, fun dd e => by cases e; exact ⟨fs, h⟩, fun u r => r, e, q⟩
theorem kit_ty1 {K : PySem.W.Frag} {D : Addr} {T : String} {b : Bool} (h : PySem.W.subIn K (.ref D) (.type T) = some b) (hm : PySem.W.kitMeta T = true := by decide +kernel) : PySem.W.kitOne K (.ref D) (.type T) = some b := by
  have e : ((.ref D : Value) == .type T) = false := rfl
  unfold PySem.W.kitOne PySem.W.kitCls
  rw [e, if_neg Bool.false_ne_true]
  dsimp only
  rw [if_pos hm]; exact h
theorem kit_self {K : PySem.W.Frag} {D : Addr} : PySem.W.kitOne K (.ref D) (.ref D) = some true := by
  unfold PySem.W.kitOne
  rw [if_pos (beq_self_eq_true _)]
theorem kit_cl {K : PySem.W.Frag} {D C : Addr} {b : Bool} (hi : PySem.W.isClsIn K C = true) (ht : PySem.W.typeIn K (.ref C) = some (.type "type")) (h : PySem.W.subIn K (.ref D) (.ref C) = some b) (hn : b = true ∨ D ≠ C) : PySem.W.kitOne K (.ref D) (.ref C) = some b := by
  unfold PySem.W.kitOne PySem.W.kitCls
  split
  · rename_i e
    have e2 : D = C := Value.ref.inj (beq_iff_eq.mp e)
    rcases hn with rfl | hn
    · rfl
    · exact absurd e2 hn
  · dsimp only
    have hi' : (PySem.W.clsIn K C).isSome = true := hi
    have ht' : (PySem.W.typeIn K (.ref C) == some (.type "type")) = true := by rw [ht] <;> rfl
    rw [hi', ht', if_pos (show (true && true) = true from rfl)]; exact h
end J

set_option Elab.async false
set_option linter.all false
set_option maxRecDepth 100000
set_option maxHeartbeats 4000000
namespace J
open PySem PySem.Spec PySem.Calls L2 PyProof.Rows Builtin
/-! ### x != y by an own __eq__ -/
section
variable {prog : Program} {w : World} {A : Around} {E : Value → Shared → Prop} {s : Shared} {K : PySem.W.Frag} {x C f : Addr} {ox : Obj} {od : Option Obj} {b tb : Value}
theorem ifBound_S {M : Model} {B : String} {name : Str} {id : String} {args : List Value} {Q : Option Value → Shared → Prop} (X : K.In s.heap) (I : PySem.W.InstAt s.heap x ox C od) (hs : PySem.W.findIn K (.ref C) name = some (some (.builtin id))) (S : Slot B name id)
    (h : wpAny M A (call (.builtin id) (.ref x :: args)) (fun v => Q (some v)) E s) : wpAny M A (callSpecialIfBound? (.ref x) name args) Q E s := by
  simp only [callSpecialIfBound?, bindSpecialIfBound?]
  refine wpAny_holding (wpAny_bind (wpAny_bind (wpAny_bind (I.type.here ((PySem.W.looks_findIn X hs).here ?_)))))
  simp only [S.bind]
  refine wpAny_bind (wpAny_askSetting (wpAny_ite ?_))
  have fin : wpAny M A (call (.builtin id) ([.ref x] ++ args) >>= fun v => pure (some v)) Q E s := wpAny_bind (wpAny_mono h (fun v s' h' => wpAny_pure h') fun _ _ h' => h')
  split
  · exact wpAny_bind (wpAny_pure (wpAny_pure (by exact fin)))
  · exact wpAny_tryCatch (wpAny_bind (wpAny_pure (wpAny_pure (by exact fin))))
theorem objNe_own {Q : Fin → Shared → Prop} (X : K.In s.heap) (I : PySem.W.InstAt s.heap x ox C od) (hs : PySem.W.findIn K (.ref C) "__eq__" = some (some (.ref f))) (hf : PySem.W.isFn K (.ref f) = true) (hu : A.units < cLine)
    (hcall : wpAny (model prog w) A (call (.ref f) [.ref x, b]) (fun v s' => ∃ r, v = .bool r ∧ Q (.done (.ret (.bool (!r)))) s') E s) :
    wpAny (model prog w) A (Builtin.«object.__ne__» ⟨[.ref x, b], []⟩) Q E s := by
  unfold Builtin.«object.__ne__»
  repeat (first
    | with_reducible refine wpAny_cRoomFor hu ?_
    | (refine wpAny_bind (m := callSpecialIfBound? (.ref x) (Str.ofString "__eq__") [b])
        (PySem.W.ifBound_K X I hs hf (wpAny_mono hcall (fun v s' hr => by
          obtain ⟨r, rfl, hq⟩ := hr
          repeat (first | exact hq | exact wpAny_pure hq | exact wpAny_truthy_bool hq | (refine wpAny_bind (m := truthy (.bool _)) (wpAny_truthy_bool ?_)) | wp_step)) fun _ _ e => e)))
    | wp_step)
theorem tryNe_own {Q : Option Value → Shared → Prop} (X : K.In s.heap) (I : PySem.W.InstAt s.heap x ox C od) (hs : PySem.W.findIn K (.ref C) "__eq__" = some (some (.ref f))) (hf : PySem.W.isFn K (.ref f) = true)
    (hn : PySem.W.findIn K (.ref C) "__ne__" = some (some (.builtin "object.__ne__"))) (ho : PySem.W.subIn K (.ref C) (.type "object") = some true) (hu : A.units + 1 < cLine)
    (hcall : wpAny (model prog w) A.in1 (call (.ref f) [.ref x, b]) (fun v s' => ∃ r, v = .bool r ∧ Q (some (.bool (!r))) s') E s) :
    wpAny (model prog w) A (tryCompare (.ref x) "__ne__" b) Q E s := by
  unfold tryCompare
  refine wpAny_bind (ifBound_S X I hn F.cmp_object.ne (wpAny_call (codeAny_call_builtin F.cmp_object.ne.plain F.cmpEntry_ne
    (PySem.W.check_slot F.cmpKind_ne F.cmpSplit_ne (I.type.andThen (PySem.W.looks_subIn X ho)) (F.cmpArgs_ne _ _) (objNe_own (A := A.in1) X I hs hf hu (wpAny_mono hcall (fun v s' hv => ?_) fun _ _ e => e))))))
  obtain ⟨r, rfl, hq⟩ := hv
  first | exact wpAny_pure hq | exact ⟨r, rfl, wpAny_pure hq⟩ | exact ⟨r, rfl, wpAny_pure (wpAny_pure hq)⟩ | exact ⟨r, rfl, hq⟩
theorem ne_own {Q : Value → Shared → Prop} (X : K.In s.heap) (I : PySem.W.InstAt s.heap x ox C od) (hb : PySem.W.Looks (model prog w) s.heap (typeOf b) tb) (hnf : PySem.W.notFirst K C tb = true) (hs : PySem.W.findIn K (.ref C) "__eq__" = some (some (.ref f))) (hf : PySem.W.isFn K (.ref f) = true)
    (hn : PySem.W.findIn K (.ref C) "__ne__" = some (some (.builtin "object.__ne__"))) (ho : PySem.W.subIn K (.ref C) (.type "object") = some true) (hu : A.units + 1 < cLine)
    (hcall : wpAny (model prog w) A.in1 (call (.ref f) [.ref x, b]) (fun v s' => ∃ r, v = .bool r ∧ Q (.bool (!r)) s') E s) : wpAny (model prog w) A (richCompare .NotEq (.ref x) b) Q E s := by
  have one : wpAny (model prog w) A (tryCompare (.ref x) (cmpInfo .NotEq).2.1 b) (fun r s' => ∃ v, r = some v ∧ Q v s') E s :=
    tryNe_own X I hs hf hn ho hu (wpAny_mono hcall (fun v s' ⟨r, e, q⟩ => ⟨r, e, _, rfl, q⟩) fun _ _ e => e)
  unfold richCompare
  simp only [oneThing_ref]
  refine wpAny_holding (wpAny_bind (wpAny_cRoomFor (Nat.lt_of_succ_lt hu) ?_))
  refine wpAny_bind (I.type.here (wpAny_bind (hb.here ?_)))
  split
  · rename_i q
    have e : PySem.W.subIn K tb (.ref C) = some false := by
      rcases Bool.or_eq_true_iff.mp hnf with e | e
      · rw [beq_iff_eq.mp e] at q; simp at q
      · exact beq_iff_eq.mp e
    refine wpAny_bind ((PySem.W.looks_subIn X e).here ?_)
    simp only [Bool.false_eq_true, if_false]
    refine wpAny_bind (wpAny_mono one (fun r s' z => ?_) fun _ _ e => e)
    obtain ⟨v, rfl, hq⟩ := z
    exact wpAny_pure hq
  · refine wpAny_bind (wpAny_pure ?_)
    simp only [Bool.false_eq_true, if_false]
    refine wpAny_bind (wpAny_mono one (fun r s' z => ?_) fun _ _ e => e)
    obtain ⟨v, rfl, hq⟩ := z
    exact wpAny_pure hq
end
/-- a class with an own __eq__, without an own __ne__ -/
structure OwnEq (K : PySem.W.Frag) (C f : Addr) : Prop where
  eq : PySem.W.findIn K (.ref C) "__eq__" = some (some (.ref f))
  fn : PySem.W.isFn K (.ref f) = true
  ne : PySem.W.findIn K (.ref C) "__ne__" = some (some (.builtin "object.__ne__"))
  ob : PySem.W.subIn K (.ref C) (.type "object") = some true
structure CEq (P : Program) (w : World) (K : PySem.W.Frag) (mg : Str → Option Value) (base : Heap) (k : Nat) (C : Addr) (sp : Sp) : Prop where
  ex : ∃ (f : Addr) (fd : FuncData) (ps : List Str), FnOk P w K mg base CX0 k f fd ps sp ∧ Binds K fd ps [] ∧ OwnEq K C f
def rNeO (C : Addr) (sp : Sp) : R2 := fun x y H Q => ∃ a b dx dy fs gs, x = .ref a ∧ y = .ref b ∧ H a = some (.ins C dx fs) ∧ H b = some (.ins C dy gs) ∧ sp [.ref a, .ref b] H (fun v H' => ∃ r, v = .bl r ∧ Q (.bl (!r)) H') (fun _ _ _ => False)
theorem op_neO {X : Cx} {C : Addr} {sp : Sp} {k j : Nat} (c : CEq X.prog X.w X.K X.mg X.base k C sp) (hr : Room j X.A) (hk : k + 1 ≤ j) : OpR X (compareOp .NotEq) (rNeO C sp) := by
  obtain ⟨f, fd, ps, F, hb, O⟩ := c.ex
  intro pins s σ H x y v u Q I rx ry hq
  obtain ⟨a, b, dx, dy, fs, gs, rfl, rfl, ha, hb', q⟩ := hq
  cases rx
  cases ry
  obtain ⟨mA, J, _⟩ := ins_get I.hok ha
  obtain ⟨mB, J', _⟩ := ins_get I.hok hb'
  obtain ⟨od, J, _⟩ := J.look
  obtain ⟨od', J', _⟩ := J'.look
  have hr1 : Room k X.A.in1 := (hr.mono hk).in1
  show wpAny (model X.prog X.w) X.A (richCompare .NotEq (.ref a) (.ref b)) (EP X pins σ Q) X.xe s
  refine ne_own (tb := .ref C) I.kIn J J'.type (by simp [PySem.W.notFirst]) O.eq O.fn O.ne O.ob (by have := hr.un; omega) ?_
  have e0 : Env0 X.prog X.w X.K X.mg X.base X.A.in1 X.stack s H := by
    have e := I.env0
    exact ⟨e.frames, e.mod, e.bs, e.bsz, e.funs, e.frf, e.hok, e.bare⟩
  have hl := F.len _ _ _ _ q
  have r2 : Vals [V.ref a, V.ref b] [Value.ref a, Value.ref b] := .cons rfl (.cons rfl .nil)
  refine wpAny_call (codeAny_mono (F.run X.A.in1 X.stack s H ⟨[.ref a, .ref b], []⟩ [.ref a, .ref b] [.ref a, .ref b] _ _ hr1 e0 (by
    have := hb s [.ref a, .ref b] I.kIn (by simpa using hl)
    simpa using this) r2 q) fun r s' hq => ?_)
  cases r with
  | error e => exact pass00 (X := X) σ pins H s e s' I hq
  | ok fl =>
    cases fl with
    | ret w =>
      obtain ⟨z, H', I', rz, b', ez, q'⟩ := I.after hq
      subst ez
      cases rz
      exact ⟨b', rfl, .bl (!b'), H', I', rfl, q'⟩
    | next => exact False.elim hq
    | brk => exact False.elim hq
    | cont => exact False.elim hq
theorem r_neO {C a b dx dy : Addr} {fs gs : List (Str × V)} {sp : Sp} {H : Hp} {Q : VK} (ha : H a = some (.ins C dx fs)) (hb : H b = some (.ins C dy gs)) (q : sp [.ref a, .ref b] H (fun v H' => ∃ r, v = .bl r ∧ Q (.bl (!r)) H') (fun _ _ _ => False)) : rNeO C sp (.ref a) (.ref b) H Q := ⟨a, b, dx, dy, fs, gs, rfl, rfl, ha, hb, q⟩
end J

set_option Elab.async false
set_option linter.all false
set_option maxRecDepth 100000
set_option maxHeartbeats 4000000
namespace J
open PySem L2 PyProof.Rows
/-! ### C(e, .., k = v) -/
structure MakN (P : Program) (w : World) (K : PySem.W.Frag) (mg : Str → Option Value) (base : Heap) (k : Nat) (x : Str) (C : Addr) (n : Nat) (ks : List Str) (sp : Sp) : Prop where
  ex : ∃ f fd ps g gV, Mk K C f ∧ FnOk P w K mg base CX0 k f fd ps sp ∧ mg x = some (.ref C) ∧ KBn K fd ps (n + 1) ks g gV ∧ gV = fun vs zs => vs ++ zs
section
variable {X : Cx} {k j n : Nat} {C : Addr} {ks : List Str} {sp : Sp} {x : Str} {p pos : Pos} {e : Expr} {es : List Expr} {kws : List Keyword} {t tk : TA}
theorem pe_mkN (c : MakN X.prog X.w X.K X.mg X.base k x C n ks sp) (hr : Room j X.A) (hk : k + 1 ≤ j) (ha : PA X (e :: es) t) (hkw : PK X kws tk) (hg : Gl X x := by rfl)
    (hall : (backToKw pos (keywordEach kws X.env)).all (·.1.isSome) = true := by rfl) (hks : (backToKw pos (keywordEach kws X.env)).filterMap (·.1) = ks := by rfl) (hdb : (x == ("__debug__" : Str)) = false := by decide)
    (he : starEach (e :: es) X.env = (false, eval e X.env) :: starEach es X.env := by rfl) (hpl : ((backTo pos (starEach (e :: es) X.env)).any (·.1) || (backToKw pos (keywordEach kws X.env)).any (·.1.isNone)) = false := by rfl) :
    PE X (.Call (.Name x p) (e :: es) kws pos) (tMakeK C n ks.length sp (fun vs zs => vs ++ zs) E0 t tk) := by
  obtain ⟨f, fd, ps, g, gV, M, F, hm, hb, eg⟩ := c.ex
  have h := pe_makeK (p := p) M F (hr.mono hk) hg hm hb pass0 ha hkw hall hks hdb he hpl
  rw [eg] at h
  exact h
end
def MkAtN (C : Addr) (n m : Nat) (sp : Sp) (vs zs : List V) (H : Hp) (Q : VK) : Prop := vs.length = n ∧ zs.length = m ∧ ∀ x dx, H x = none → H dx = none → dx ≠ x → sp (.ref x :: vs ++ zs) (upd (upd H dx (.own x)) x (.ins C dx [])) (fun v H3 => v = .non ∧ Q (.ref x) H3) E0
theorem r_mkN {C : Addr} {n m : Nat} {sp : Sp} {t tk : TA} {σ : L2.St} {H : Hp} {Q : VK} (k : t σ H fun vs H1 => tk σ H1 fun zs H2 => MkAtN C n m sp vs zs H2 Q) : tMakeK C n m sp (fun vs zs => vs ++ zs) E0 t tk σ H Q := k
theorem r_mkNAt {C : Addr} {n m : Nat} {sp : Sp} {vs zs : List V} {H : Hp} {Q : VK} (h1 : vs.length = n) (h2 : zs.length = m) (k : ∀ x dx H', H x = none → Same H H' → H' x = some (.ins C dx []) → sp (.ref x :: (vs ++ zs)) H' (fun v H2 => v = .non ∧ Q (.ref x) H2) E0) : MkAtN C n m sp vs zs H Q :=
  ⟨h1, h2, fun x dx hx hd hn => k x dx _ hx (fun b o e => by
    rw [upd_ne (ne_of_none e hx), upd_ne (ne_of_none e hd)]; exact e) upd_same⟩
/-! ### a tuple of texts in the module -/
def strVals (ks : List Tok) (ss : List Str) : List Value := (ss.zip ks).map fun q => .str q.1 q.2
theorem sqT_mod {K : PySem.W.Frag} {H : Hp} {a : Addr} {od : Option Addr} {n : Nat} {sl : Array (Option Value)} {us : List Value} {ss : List Str} (lk : K.lookup a = some ⟨.type "tuple", od, .seq us.toArray n, sl⟩) (hl : us.length ≤ 1000) (r : Vals (ss.map V.str) us) : SqT K H a (ss.map V.str) :=
  .inr ⟨_, us.toArray, n, lk, rfl, rfl, by rw [List.size_toArray]; exact sz (Nat.le_trans hl (by decide)), by simpa using r⟩
theorem dpAll_strs {K : PySem.W.Frag} {H : Hp} : ∀ ss : List Str, DpAll K H (ss.map V.str) (ss.map PyData.str)
  | [] => .nil
  | s :: ss => .cons (.str s) (dpAll_strs ss)
theorem layAll_strs : ∀ ss : List Str, (∀ s ∈ ss, PyData.strOk s = true) → PyData.canLayAll0 (ss.map PyData.str) = true ∧ PyData.depthAll (ss.map PyData.str) = 0
  | [], _ => ⟨rfl, rfl⟩
  | s :: ss, h => by
    obtain ⟨h1, h2⟩ := layAll_strs ss fun x hx => h x (List.mem_cons_of_mem _ hx)
    refine ⟨?_, ?_⟩
    · show (PyData.strOk s && PyData.canLayAll0 (ss.map PyData.str)) = true
      rw [h s List.mem_cons_self, h1]; rfl
    · show max 0 (PyData.depthAll (ss.map PyData.str)) = 0
      rw [h2]; rfl
theorem shaped_strs {ss : List Str} (h : ∀ s ∈ ss, PyData.strOk s = true) : SeqAt.shaped (.tuple (ss.map PyData.str)) = true := by
  obtain ⟨h1, h2⟩ := layAll_strs ss h
  unfold SeqAt.shaped
  have e1 : (PyData.tuple (ss.map PyData.str)).canLay0 = true := h1
  have e2 : (PyData.tuple (ss.map PyData.str)).depth ≤ 60 := by
    show PyData.depthAll (ss.map PyData.str) + 1 ≤ 60
    omega
  rw [e1, decide_eq_true (by omega)]; rfl
theorem any_strs {ss : List Str} {s : Str} : ((ss.map PyData.str).any fun z => PyData.eqv z (.str s)) = decide (s ∈ ss) := by
  rw [Bool.eq_iff_iff, List.any_eq_true, decide_eq_true_iff]
  constructor
  · rintro ⟨z, hz, e⟩
    obtain ⟨y, hy, rfl⟩ := List.mem_map.mp hz
    have : y = s := by simpa [PyData.eqv] using e
    rw [← this]; exact hy
  · intro h
    exact ⟨.str s, List.mem_map.mpr ⟨s, h, rfl⟩, by simp [PyData.eqv]⟩
/-- s not in a tuple of texts -/
theorem r_niStrs {K : PySem.W.Frag} {H : Hp} {Q : VK} {a : Addr} {ss : List Str} {s : Str} (h : SqT K H a (ss.map V.str)) (hs : PyData.strOk s = true) (hl : ∀ s ∈ ss, PyData.strOk s = true) (q : Q (.bl (!decide (s ∈ ss))) H) : rNiA K (.str s) (.ref a) H Q := by
  refine .inr (.inr ⟨.str s, ss.map .str, .str s, .tup h (dpAll_strs ss), ?_, shaped_strs hl, ?_⟩)
  · unfold SeqAt.shaped
    have e1 : (PyData.str s).canLay0 = true := hs
    rw [e1]; rfl
  · rw [any_strs]; exact q
end J

set_option Elab.async false
set_option linter.all false
set_option maxRecDepth 100000
set_option maxHeartbeats 4000000
namespace J
open PySem PySem.Spec L2 PyProof.Rows L2H
/-! ### defs called while an exception is handled: the exception p stands in the state -/
abbrev SpP := Addr × Obj → Sp
structure FnP (P : Program) (w : World) (K : PySem.W.Frag) (mg : Str → Option Value) (base : Heap) (CX : CXT) (k : Nat) (f : Addr) (fd : FuncData) (ps : List Str) (sp : SpP) : Prop where
  len : ∀ p vs H Q E, sp p vs H Q E → vs.length = ps.length
  run : ∀ (A : Around) (outer : List Env) (s : Shared) (H : Hp) (args : Args) (us : List Value) (vs : List V) (Q : VK) (E : XK) (p : Addr × Obj), RoomH k A → PinOk outer H s p → Env0 P w K mg base A outer s H → BindsTo s fd args (ps.zip us) → Vals vs us → sp p vs H Q E →
    codeAny (model P w) A (.call (.ref f) args) (L2.CR CX outer P w H s Q E) s
theorem fnP_of {CX : CXT} {P : Program} {w : World} {K : PySem.W.Frag} {mg : Str → Option Value} {base : Heap} {k : Nat} {f : Addr} {name qual : Str} {params : Arguments} {body : List Stmt} {scope : Scope} {dV kV doc pm cdv ct oc : Value} {an od : Option Addr}
    {osl : Array (Option Value)} {N ps : List Str} {sp : SpP} (lk : K.lookup f = some ⟨oc, od, .func (PySem.W.fnOf name qual params body scope dV kV doc pm an cdv ct), osl⟩) (hcd : PySem.W.codeIn K cdv qual = true) (S : FnScope N ps scope)
    (len : ∀ p vs H Q E, sp p vs H Q E → vs.length = ps.length)
    (hbody : ∀ (A : Around) (outer : List Env) (s : Shared) (H : Hp) (vs : List V) (Q : VK) (E : XK) (p : Addr × Obj), RoomH k (A.deeper (envOfC qual scope s.heap.objs.size f cdv)) → sp p vs H Q E →
      ∃ t, PSs (cxH CX P w K mg base N qual scope f cdv A outer s H E p) body t ∧ t { nx := fun _ H' => Q .non H', rt := Q } (L2.start N vs) H) :
    FnP P w K mg base CX (k + 1) f (PySem.W.fnOf name qual params body scope dV kV doc pm an cdv ct) ps sp := by
  refine ⟨len, fun A outer s H args us vs Q E p hr hpin e0 hb r hsp => ?_⟩
  have hl := len _ _ _ _ _ hsp
  have KX : K.In s.heap := e0.mod.kin.keeps fun b o e => (e0.bs b o e).1
  have lim : s.heap.NoLimit := e0.mod.nolimit.keeps fun b o e => (e0.bs b o e).1
  have hkind : ∀ y ∈ ps.zip us, scope.names.lookup y.1 = some .local ∨ (scope.names.lookup y.1 = some .cell ∧ ((cellsFrom (s.heap.objs.size + 1) scope.names []).lookup y.1).isSome = true) := fun ⟨n, v⟩ hy => by
    rcases S.par n (List.of_mem_zip hy).1 with q | q
    · exact .inl q
    · exact .inr ⟨q, PySem.W.cellsFrom_some _ _ _ (.inl q)⟩
  refine codeAny_call_function hr.depth (KX _ _ lk) rfl S.co S.gen rfl (PySem.W.codeRec_of KX hcd) (hb _ _ _ _ ?_)
  refine wpAny_newFunctionEnv_cells S.kind hkind fun env he s1 x => ?_
  subst he
  refine ⟨lim.keeps x.toInCall.keep, codeAny_func ?_⟩
  obtain ⟨t, ht, hq⟩ := hbody A outer s H vs Q E p (hr.deeper _) hsp
  have I : Inv (cxH CX P w K mg base N qual scope f cdv A outer s H E p) [] (L2.start N vs) H s1 := inv_startH S hpin e0 hl r x
  refine wpAny_mono (ht.run [] s1 (L2.start N vs) H _ I hq) (fun fl s' hs => ?_) fun e s' hs => hs
  match fl, hs with
  | .ret u, ⟨v, σ', H', J, rv, q⟩ => exact ⟨v, H', J.os, J.bare, J.base, J.hok, rv, q⟩
  | .next, ⟨σ', H', J, q⟩ => exact ⟨.non, H', J.os, J.bare, J.base, J.hok, rfl, q⟩
  | .brk, ⟨_, _, _, q⟩ => exact q.elim
  | .cont, ⟨_, _, _, q⟩ => exact q.elim
section
variable {P : Program} {w : World} {K : PySem.W.Frag} {mg : Str → Option Value} {base : Heap}
theorem okP {x qual : Str} {st : Stmt} {f : Addr} {fd : FuncData} {N ps : List Str} {k : Nat} {sp : SpP} (F : Fun K x qual st f fd) (S : FnScope N ps (defScope st)) (len : ∀ p vs H Q E, sp p vs H Q E → vs.length = ps.length)
    (hbody : ∀ (cdv : Value) (A : Around) (outer : List Env) (s : Shared) (H : Hp) (vs : List V) (Q : VK) (E : XK) (p : Addr × Obj), RoomH k (A.deeper (envOfC qual (defScope st) s.heap.objs.size f cdv)) → sp p vs H Q E →
      ∃ t, PSs (cxH CX0 P w K mg base N qual (defScope st) f cdv A outer s H E p).nox (defBody st) t ∧ t { nx := fun _ H' => Q .non H', rt := Q } (L2.start N vs) H) : FnP P w K mg base CX0 (k + 1) f fd ps sp := by
  obtain ⟨oc, od, kV, doc, pm, an, cdv, ct, osl, rfl, lk, hcd⟩ := F.ex
  refine fnP_of lk hcd S len fun A outer s H vs Q E p hr hsp => ?_
  obtain ⟨t, h, q⟩ := hbody cdv A outer s H vs Q E p hr hsp
  exact ⟨t, h.nox, q⟩
end
structure ClP (P : Program) (w : World) (K : PySem.W.Frag) (mg : Str → Option Value) (base : Heap) (CX : CXT) (k : Nat) (x : Str) (sp : SpP) : Prop where
  ex : ∃ f fd ps, FnP P w K mg base CX k f fd ps sp ∧ mg x = some (.ref f) ∧ PySem.W.keepIn K (.ref f) = true ∧ Binds K fd ps []
section
variable {X : Cx} {CX : CXT} {k j : Nat} {sp : SpP} {E : L2.St → XK} {x : Str} {q pos : Pos} {e : Expr} {es : List Expr} {t : TA} {p : Addr × Obj}
theorem pe_clP (c : ClP X.prog X.w X.K X.mg X.base CX k x sp) (hp : p ∈ X.pn) (hr : RoomH j X.A) (hk : k ≤ j) (hx : ∀ σ, PassesAt CX X σ (E σ)) (ha : PA X (e :: es) t) (hg : Gl X x := by rfl)
    (hdb : (x == ("__debug__" : Str)) = false := by decide) (he : starEach (e :: es) X.env = (false, eval e X.env) :: starEach es X.env := by rfl) (hpl : (backTo pos (starEach es X.env)).any (·.1) = false := by rfl) :
    PE X (.Call (.Name x q) (e :: es) [] pos) (tCallS (sp p) E t) := by
  obtain ⟨f, fd, ps, F, hm, kp, hb⟩ := c.ex
  refine ⟨fun pins s σ H Q I h => ?_⟩
  refine wpAny_Call_Name_kw (ld_glob I hg hm ?_ hdb)
  refine PySem.W.callWith_K (h₀ := X.base) I.ok.mod.kin kp (thn (ha.run pos pins s σ H _ I h) fun us s1 ⟨vs, H1, I1, r, q⟩ => ⟨I1.kIn, ?_⟩) he hpl
  have hl : us.length = ps.length := by rw [← r.length]; exact F.len _ _ _ _ _ q
  have b := hb s1 us I1.kIn (by rw [List.append_nil]; exact hl)
  rw [List.append_nil] at b
  have P1 := I1.pin p (List.mem_append_left _ hp)
  have hpin : PinOk X.stack H1 s1 p := ⟨P1.1, P1.2.1, fun hm => (List.mem_cons.mp (I1.stkSub p.1 hm)).elim P1.2.2.1 P1.2.2.2.1, P1.2.2.2.2⟩
  refine wpAny_call (codeAny_mono (F.run X.A X.stack s1 H1 ⟨us, []⟩ us vs Q (E σ) p (hr.mono hk) hpin I1.env0 b r q) fun r s' hq => ?_)
  cases r with
  | error e => exact hx σ pins H1 s1 e s' I1 hq
  | ok fl =>
    cases fl with
    | ret u => exact I1.after hq
    | next => exact False.elim hq
    | brk => exact False.elim hq
    | cont => exact False.elim hq
end
end J
namespace J
open PySem PySem.Spec L2 PyProof.Rows
/-! ### xs.count(True) of truth values -/
def eqb (b : Bool) (v : Value) : Bool := match v with
  | .bool c => c == b
  | _ => false
theorem vals_bools : ∀ {bs : List Bool} {us : List Value}, Vals (bs.map V.bl) us → us = bs.map Value.bool
  | [], _, .nil => rfl
  | b :: bs, _, .cons h t => by
    rw [vals_bools t, List.map_cons]
    cases h
    rfl
def rCntB (K : PySem.W.Frag) : V → List V → Hp → VK → Prop := fun x xs H Q => ∃ (p : Addr) (bs : List Bool) (b : Bool), x = .ref p ∧ xs = [.bl b] ∧ SqL K H p (bs.map V.bl) ∧ Q (.int (bs.count b : Nat)) H
theorem mt_lcountB {X : Cx} {K : PySem.W.Frag} (eK : X.K = K := by rfl) : MtR X "list.count" (rCntB K) := by
  subst eK
  intro pins s σ H x xs v us Q I rx rxs h
  obtain ⟨p, bs, b, rfl, rfl, hs, q⟩ := h
  cases rx
  obtain ⟨u, rfl, ru⟩ := rxs.one
  cases ru
  obtain ⟨its, rv, ⟨⟨cls, dd, data, sl⟩, n, ho, hc, hdn, hd⟩, hlen⟩ := I.list hs
  simp only at hc hd
  subst hc hd
  have hi := vals_bools rv
  have he : ∀ y ∈ its.toArray.toList, ∃ c, y = .bool c := fun y hy => by
    have hy2 : y ∈ bs.map Value.bool := by rw [← hi]; exact hy
    obtain ⟨c, _, e⟩ := List.mem_map.mp hy2
    exact ⟨c, e.symm⟩
  refine call_meets PySem.F.slot_list_count ⟨_, ho, rfl⟩ PySem.F.entry_list_count (PySem.F.args_list_count_2 _ _)
    (SeqAt.list_countAt p its.toArray n dd sl (.bool b) (eqb b)) ⟨ho, fun y hy => ?_, ?_⟩
  · obtain ⟨c, rfl⟩ := he y (by simpa using hy)
    exact SeqAt.EqAt.bool_bool c b
  · have ec : its.toArray.toList.countP (eqb b) = bs.count b := by
      rw [hi]
      show (bs.map Value.bool).countP (eqb b) = _
      rw [List.countP_map]
      rfl
    refine ⟨.int (bs.count b : Nat), H, I.tok _, ⟨s.toks, ?_⟩, q⟩
    show Value.int ((its.toArray.toList.countP (eqb b) : Nat) : Int) s.toks = Value.int ((bs.count b : Nat) : Int) s.toks
    rw [ec]
end J

set_option Elab.async false
set_option linter.all false
set_option maxRecDepth 100000
set_option maxHeartbeats 4000000
namespace J
open PySem PySem.Spec L2 PyProof.Rows
/-! ### odd values: data, or a dict of ints -/
def dicD (m : List (Int × Int)) : PyData := .dict (m.map fun q => (.int q.1, .int q.2))
inductive OdV (K : PySem.W.Frag) (S : List Addr) (H : Hp) : V → PyData → Prop
  | dat {v : V} {d : PyData} (h : Dn K S H v d) : OdV K S H v d
  | dic {a : Addr} {m : List (Int × Int)} (h : H a = some (.dK (intKV m))) (n : a ∉ S) : OdV K S H (.ref a) (dicD m)
section
variable {K : PySem.W.Frag} {S T : List Addr} {H H' : Hp} {v : V} {d : PyData}
theorem OdV.but (b : But T H H') (h : OdV K S H v d) (hs : ∀ s ∈ T, s ∈ S) : OdV K S H' v d := by
  cases h with
  | dat h => exact .dat (h.but b hs)
  | dic h n => exact .dic (b.at h fun z => n (hs _ z)) n
theorem OdV.same (b : Same H H') (h : OdV K S H v d) : OdV K S H' v d := h.but (But.of_same (S := []) b) (by simp)
theorem OdV.sub (h : OdV K S H v d) (hs : ∀ s ∈ T, s ∈ S) : OdV K T H v d := by
  cases h with
  | dat h => exact .dat (h.sub hs)
  | dic h n => exact .dic h fun z => n (hs _ z)
theorem OdV.tyx (h : OdV K S H v d) : TyX K H v (.type (tyD d)) := by
  cases h with
  | dat h => exact tyx_of h
  | dic h n => exact .base (.dK h)
theorem OdV.int_inv {i : Int} (h : OdV K S H v (.int i)) : v = .int i := by
  generalize e : PyData.int i = d at h
  cases h with
  | dat h => subst e; exact h.int_inv
  | dic h n => cases e
theorem od_isi {T : String} {b : Bool} {Q : VK} (h : OdV K S H v d) (e : kitB (tyD d) T = some b) (k : Q (.bl b) H) : rIsi K [v, .ty T] H Q :=
  ⟨v, _, _, _, b, rfl, .ty T, h.tyx, kit_ty e, k⟩
theorem od_isInt {Q : VK} (h : OdV K S H v d) (k : Q (.bl (isIntD d)) H) : rIsi K [v, .ty "int"] H Q := od_isi h (kit_int d) k
theorem od_isBool {Q : VK} (h : OdV K S H v d) (k : Q (.bl (isBoolD d)) H) : rIsi K [v, .ty "bool"] H Q := od_isi h (kit_bool d) k
theorem od_isStr {Q : VK} (h : OdV K S H v d) (k : Q (.bl (isStrD d)) H) : rIsi K [v, .ty "str"] H Q := od_isi h (kit_str d) k
theorem od_isTup {Q : VK} (h : OdV K S H v d) (k : Q (.bl (isTupD d)) H) : rIsi K [v, .ty "tuple"] H Q := od_isi h (kit_tup d) k
theorem od_isList {Q : VK} (h : OdV K S H v d) (k : Q (.bl (isListD d)) H) : rIsi K [v, .ty "list"] H Q := od_isi h (kit_list d) k
end
/-! ### repr -/
theorem reads_pairs {P : Program} {w : World} {h : Heap} : ∀ {m : List (Int × Int)} {vs : List (L2.Key × Value)} {es : List DictEntry}, Pairs (mixKind P w) es vs → KV (intKV m) vs →
    ReadsAll h (es.map (·.key)) ((m.map fun q => (PyData.int q.1, PyData.int q.2)).map (·.1)) [] ∧ ReadsAll h (es.map (·.val)) ((m.map fun q => (PyData.int q.1, PyData.int q.2)).map (·.2)) []
  | [], _, es, hp, .nil => by
    cases hp
    exact ⟨.nil, .nil⟩
  | q :: m, kv :: vs, es, hp, .cons hq t => by
    cases hp with
    | @cons e _ es _ h1 h2 h3 =>
      obtain ⟨hq1, hq2⟩ := hq
      obtain ⟨ih1, ih2⟩ := reads_pairs h3 t
      dsimp only at hq1 hq2
      rw [← hq1] at h1
      obtain ⟨tk, ek⟩ := relV_key (show keyIs (Sum.inl q.1) e.key = true from h1)
      obtain ⟨tv, ev⟩ := (show ∃ t, kv.2 = Value.int q.2 t from hq2)
      refine ⟨?_, ?_⟩
      · have := ReadsAll.cons (h := h) (Reads.int q.1 tk) ih1
        rw [List.map_cons, ek]
        exact this
      · have := ReadsAll.cons (h := h) (Reads.int q.2 tv) ih2
        rw [List.map_cons, h2, ev]
        exact this
def rReprOd (K : PySem.W.Frag) : List V → Hp → VK → Prop := fun xs H Q => ∃ (x : V) (S : List Addr) (d : PyData), xs = [x] ∧ OdV K S H x d ∧ d.showable = true ∧ d.depth ≤ 60 ∧ d.shown.length ≤ sizeLine ∧ Q (.str d.shown) H
theorem call_reprOd {X : Cx} {K : PySem.W.Frag} (hg : X.A.guards = some []) (hu : X.A.units + 64 < cLine) (eK : X.K = K := by rfl) : CallR X (.builtin "repr") (rReprOd K) := by
  subst eK
  intro pins s σ H xs us Q I r h
  obtain ⟨x, S, d, rfl, hd, hs, hdp, hz, q⟩ := h
  cases hd with
  | dat h => exact call_reprD hg hu pins s σ H _ us Q I r ⟨x, d, rfl, h.dp, hs, hdp, hz, q⟩
  | @dic a m h n =>
    obtain ⟨u, rfl, rx⟩ := vals1 r
    cases rx
    obtain ⟨z, lo, vs, rel, dd⟩ := dk_rd I.hok (.inl h)
    obtain ⟨o, es, ep, ho, hex, hda, _, hpr, _⟩ := dd
    obtain ⟨r1, r2⟩ := reads_pairs (h := s.heap) hpr rel
    have rr : Reads s.heap (.ref a) (dicD m) (a :: [] ++ []) := .dict ho hex.1 hda r1 r2
    have nas : sysModules ∉ a :: ([] : List Addr) ++ [] := fun z => by
      have e : sysModules = a := by simpa using z
      rw [← e] at lo
      simp at lo
    exact repr_of_reads' rr hs (fun _ => nas) hg (by omega) (fun _ _ e => e) (fun h' v tk hk => ⟨.str _, H, I.kept hk, ⟨_, rfl⟩, q⟩) hz
end J

set_option Elab.async false
set_option linter.all false
set_option maxRecDepth 100000
set_option maxHeartbeats 4000000
namespace J
open PySem PySem.Spec L2 PyProof.Rows
/-! ### defs that raise nothing, where exceptions may be raised -/
theorem fn_lift {P : Program} {w : World} {K : PySem.W.Frag} {mg : Str → Option Value} {base : Heap} {k : Nat} {f : Addr} {fd : FuncData} {ps : List Str} {sp : Sp} (F : FnOk P w K mg base CX0 k f fd ps sp) : FnOk P w K mg base (L2.CX P w) k f fd ps sp :=
  ⟨F.len, fun A outer s H args us vs Q E hr e0 hb r h => codeAny_mono (F.run A outer s H args us vs Q E hr e0 hb r h) fun r s' q => by
    match r, q with
    | .error e, q => exact q.elim
    | .ok (.ret u), q => exact q
    | .ok .next, q => exact q
    | .ok .brk, q => exact q
    | .ok .cont, q => exact q⟩
/-! ### C(e, ..), its __init__ may raise -/
def tMakeS (C : Addr) (sp : Sp) (dvs : List V) (E : L2.St → XK) (t : TA) : TE := fun σ H Q => t σ H fun vs H1 => MakeAt C sp dvs (E σ) vs H1 Q
structure MakX (P : Program) (w : World) (K : PySem.W.Frag) (mg : Str → Option Value) (base : Heap) (CX : CXT) (k : Nat) (x : Str) (C : Addr) (sp : Sp) (dvs : List V) : Prop where
  ex : ∃ (f : Addr) (fd : FuncData) (ps : List Str) (ds : List Value), Mk K C f ∧ FnOk P w K mg base CX k f fd ps sp ∧ mg x = some (.ref C) ∧ Binds K fd ps ds ∧ Vals dvs ds
section
variable {X : Cx} {CX : CXT} {k j : Nat} {f C : Addr} {fd : FuncData} {ps : List Str} {sp : Sp} {dvs : List V} {ds : List Value} {E : L2.St → XK} {x : Str} {p pos : Pos} {e : Expr} {es : List Expr} {t : TA}
theorem run_makeS {pins : List (Addr × Obj)} {σ : L2.St} {H : Hp} {s : Shared} {Q : VK} {us : List Value} {vs : List V} (M : Mk X.K C f) (F : FnOk X.prog X.w X.K X.mg X.base CX k f fd ps sp) (hr : Room (k + 1) X.A) (hb : Binds X.K fd ps ds) (hd : Vals dvs ds)
    (hx : PassesAt CX X σ (E σ)) (I : Inv X pins σ H s) (r : Vals vs us) (h : MakeAt C sp dvs (E σ) vs H Q) : wpAny (model X.prog X.w) X.A (call (.ref C) us) (EP X pins σ Q) X.xe s := by
  have hq := h (s.heap.objs.size + 1) s.heap.objs.size (I.hok.fresh (Nat.le_succ _)) (I.hok.fresh (Nat.le_refl _)) (Nat.ne_of_lt (Nat.lt_succ_self _))
  have I2 := Inv.made (C := C) I
  have r2 : Vals (V.ref (s.heap.objs.size + 1) :: (vs ++ dvs)) (Value.ref (s.heap.objs.size + 1) :: (us ++ ds)) := .cons rfl (r.append hd)
  have hl : (Value.ref (s.heap.objs.size + 1) :: us ++ ds).length = ps.length := by
    have e := r2.length
    rw [F.len _ _ _ _ hq] at e
    exact e.symm
  refine wpAny_call (make_map (f := f) I.kIn M.makes M.init (beq_iff_eq.mp M.fn) (codeAny_mono (F.run _ X.stack _ _ ⟨Value.ref (s.heap.objs.size + 1) :: us, []⟩ (Value.ref (s.heap.objs.size + 1) :: (us ++ ds)) _ _ (E σ) (hr.make C us [])
    (I2.env0.make C us []) (hb _ (Value.ref (s.heap.objs.size + 1) :: us) I2.kIn hl) r2 hq) fun r s' hq' => ?_))
  cases r with
  | error e => exact hx pins _ _ e s' I2 hq'
  | ok fl =>
    cases fl with
    | ret u =>
      obtain ⟨v, H', I3, rv, ev, q3⟩ := I2.after hq'
      subst ev
      exact ⟨rv, ⟨V.ref (s.heap.objs.size + 1), H', I3, rfl, q3⟩⟩
    | next => exact False.elim hq'
    | brk => exact False.elim hq'
    | cont => exact False.elim hq'
theorem pe_mkX (c : MakX X.prog X.w X.K X.mg X.base CX k x C sp dvs) (hr : Room j X.A) (hk : k + 1 ≤ j) (hx : ∀ σ, PassesAt CX X σ (E σ)) (ha : PA X (e :: es) t) (hg : Gl X x := by rfl)
    (hdb : (x == ("__debug__" : Str)) = false := by decide) (he : starEach (e :: es) X.env = (false, eval e X.env) :: starEach es X.env := by rfl) (hpl : (backTo pos (starEach es X.env)).any (·.1) = false := by rfl) :
    PE X (.Call (.Name x p) (e :: es) [] pos) (tMakeS C sp dvs E t) := by
  obtain ⟨f, fd, ps, ds, M, F, hm, hb, hd⟩ := c.ex
  refine ⟨fun pins s σ H Q I h => ?_⟩
  refine wpAny_Call_Name_kw (ld_glob I hg hm ?_ hdb)
  refine PySem.W.callWith_K (h₀ := X.base) I.ok.mod.kin M.kp (thn (ha.run pos pins s σ H _ I h) fun us s1 ⟨vs, H1, I1, r, q⟩ => ⟨I1.kIn, ?_⟩) he hpl
  exact run_makeS M F (hr.mono hk) hb hd (hx σ) I1 r q
end
theorem r_makeS {C : Addr} {sp : Sp} {dvs : List V} {E : L2.St → XK} {t : TA} {σ : L2.St} {H : Hp} {Q : VK} (k : t σ H fun vs H1 => MakeAt C sp dvs (E σ) vs H1 Q) : tMakeS C sp dvs E t σ H Q := k
theorem pe_gcl {X : Cx} {C : Addr} {x : Str} {pos : Pos} (hg : Gl X x) (hm : X.mg x = some (.ref C)) (hd : (x == ("__debug__" : Str)) = false := by decide) : PE X (.Name x pos) (tC (.ref C)) := pe_glob (v := .ref C) hg hm rfl hd
/-- the fields of an error with one field -/
def fo1 (f why : Str) : List V → Option (List (Str × V))
  | [y] => some [(f, y), ("why", .str why)]
  | _ => none
end J

set_option Elab.async false
set_option linter.all false
set_option maxRecDepth 100000
set_option maxHeartbeats 4000000
namespace J
open PySem PySem.Spec L2 PyProof.Rows
/-! ### text * int -/
def repS (a : Str) (k : Nat) : Str := if k = 0 then Str.empty else if k = 1 ∨ a.length = 0 then a else ⟨(List.replicate k a.cps).foldl (· ++ ·) #[]⟩
def rRepS : R2 := fun x y H Q => ∃ (a : Str) (n : Nat), x = .str a ∧ y = .int n ∧ n ≤ 1000 ∧ a.length ≤ 1000 ∧ Q (.str (repS a n)) H
theorem op_mulS {X : Cx} : OpR X (binaryOp .Mult) rRepS := by
  intro pins s σ H x y v u Q I rx ry h
  obtain ⟨a, n, rfl, rfl, hn, ha, q⟩ := h
  obtain ⟨t, rfl⟩ := rx
  obtain ⟨t2, rfl⟩ := ry
  have hle : a.length * n ≤ 1000000 := Nat.le_trans (Nat.mul_le_mul ha hn) (by decide)
  refine PySem.P.mul_str (by rw [decide_eq_false (by omega), decide_eq_false (by omega)]; rfl) (fun h1 _ => ?_) (fun _ _ => ?_) ?_
  · have h3 : ((a.length * n : Nat) : Int) ≤ 1000000 := Int.ofNat_le.mpr hle
    rw [Int.natCast_mul] at h3
    exact Int.not_lt.mpr (Int.le_ediv_of_mul_le (Int.lt_of_lt_of_le (by decide) (Int.not_lt.mp h1)) (Int.le_trans h3 (by decide)))
  · rw [Int.toNat_natCast]
    exact Bool.eq_false_iff.mpr (PySem.W.KPc.short (by omega))
  · unfold repS at q
    by_cases h0 : n = 0
    · subst h0
      rw [if_pos (by decide)]
      rw [if_pos rfl] at q
      exact ⟨by decide, .str _, H, I.tok _, ⟨_, rfl⟩, q⟩
    · rw [if_neg (by omega)]
      rw [if_neg h0] at q
      by_cases h1 : n = 1 ∨ a.length = 0
      · rw [if_pos h1] at q
        have e : ((n : Int) == 1 || a.length == 0) = true := by
          rcases h1 with h | h
          · rw [h]; rfl
          · rw [h]; simp
        rw [if_pos e]
        exact ⟨.str _, H, I, ⟨_, rfl⟩, q⟩
      · rw [if_neg h1] at q
        have e : ((n : Int) == 1 || a.length == 0) = false := by
          rw [Bool.or_eq_false_iff]
          refine ⟨beq_eq_false_iff_ne.mpr fun z => h1 (.inl (by omega)), beq_eq_false_iff_ne.mpr fun z => h1 (.inr z)⟩
        rw [e, if_neg Bool.false_ne_true]
        refine ⟨?_, .str _, H, I.tok _, ⟨_, rfl⟩, q⟩
        rw [Int.toNat_natCast]
        have e2 : ∀ (k : Nat) (b : Array _), (List.foldl (fun x1 x2 => x1 ++ x2) b (List.replicate k a.cps)).size = b.size + k * a.cps.size := by
          intro k
          induction k with
          | zero => intro b; simp
          | succ k ih => intro b; rw [List.replicate_succ, List.foldl_cons, ih, Array.size_append, Nat.succ_mul]; omega
        have e3 : ({ cps := List.foldl (fun x1 x2 => x1 ++ x2) #[] (List.replicate n a.cps) } : Str).length = n * a.length := by
          show (List.foldl (fun x1 x2 => x1 ++ x2) #[] (List.replicate n a.cps)).size = n * a.cps.size
          rw [e2]; simp
        rw [e3]
        exact sz (by rw [Nat.mul_comm]; omega)
theorem r_iteSh {P A B : Prop} {dp : Decidable P} (T : A) (h2 : ¬ P → A → B) : if decide P = true then A else B := by
  by_cases h : P
  · rw [if_pos (decide_eq_true h)]; exact T
  · rw [if_neg (by rw [decide_eq_false h]; exact Bool.false_ne_true)]; exact h2 h T
end J
namespace J
open PySem PySem.Spec L2 PyProof.Rows L2H
/-! ### defs handed the exception in a suite: the reading knows its place, class and fields' dict -/
abbrev SpX := Addr → Value → Option Addr → Sp
def liftX (sp : SpX) : SpP := fun p vs H Q E => ∃ (cls : Value) (d : Option Addr), Zc cls d p.2 ∧ (∃ vs, p.2.data = .fields vs) ∧ sp p.1 cls d vs H Q E
section
variable {X : Cx} {CX : CXT} {k j : Nat} {sp : SpX} {E : L2.St → XK} {x : Str} {q pos : Pos} {e : Expr} {es : List Expr} {t : TA} {a : Addr} {oe : Obj} {cls : Value} {d : Option Addr}
theorem pe_clX (c : ClP X.prog X.w X.K X.mg X.base CX k x (liftX sp)) (hp : (a, oe) ∈ X.pn) (hz : Zc cls d oe) (hf : ∃ vs, oe.data = .fields vs) (hr : RoomH j X.A) (hk : k ≤ j) (hx : ∀ σ, PassesAt CX X σ (E σ)) (ha : PA X (e :: es) t) (hg : Gl X x := by rfl)
    (hdb : (x == ("__debug__" : Str)) = false := by decide) (he : starEach (e :: es) X.env = (false, eval e X.env) :: starEach es X.env := by rfl) (hpl : (backTo pos (starEach es X.env)).any (·.1) = false := by rfl) :
    PE X (.Call (.Name x q) (e :: es) [] pos) (tCallS (sp a cls d) E t) := by
  obtain ⟨f, fd, ps, F, hm, kp, hb⟩ := c.ex
  refine ⟨fun pins s σ H Q I h => ?_⟩
  refine wpAny_Call_Name_kw (ld_glob I hg hm ?_ hdb)
  refine PySem.W.callWith_K (h₀ := X.base) I.ok.mod.kin kp (thn (ha.run pos pins s σ H _ I h) fun us s1 ⟨vs, H1, I1, r, q⟩ => ⟨I1.kIn, ?_⟩) he hpl
  have hl : us.length = ps.length := by rw [← r.length]; exact F.len (a, oe) _ _ _ _ ⟨cls, d, hz, hf, q⟩
  have b := hb s1 us I1.kIn (by rw [List.append_nil]; exact hl)
  rw [List.append_nil] at b
  have P1 := I1.pin (a, oe) (List.mem_append_left _ hp)
  have hpin : PinOk X.stack H1 s1 (a, oe) := ⟨P1.1, P1.2.1, fun hm => (List.mem_cons.mp (I1.stkSub a hm)).elim P1.2.2.1 P1.2.2.2.1, P1.2.2.2.2⟩
  refine wpAny_call (codeAny_mono (F.run X.A X.stack s1 H1 ⟨us, []⟩ us vs Q (E σ) (a, oe) (hr.mono hk) hpin I1.env0 b r ⟨cls, d, hz, hf, q⟩) fun r s' hq => ?_)
  cases r with
  | error e => exact hx σ pins H1 s1 e s' I1 hq
  | ok fl =>
    cases fl with
    | ret u => exact I1.after hq
    | next => exact False.elim hq
    | brk => exact False.elim hq
    | cont => exact False.elim hq
end
end J

set_option Elab.async false
set_option linter.all false
set_option maxRecDepth 100000
set_option maxHeartbeats 4000000
namespace J
open PySem PySem.Spec L2 PyProof.Rows
/-! ### several except clauses, each with its own «as n» -/
/-- a clause: the class, the slot of its name, what its suite reads -/
structure Cls3 where
  c : Value
  i : Nat
  ts : Addr → Value → Option Addr → TS
def wManyAs (K : PySem.W.Frag) (Wout : WX) (D : Ends) : List Cls3 → WX
  | [] => Wout
  | h :: r => wAs K h.c h.i h.ts (wManyAs K Wout D r) D
inductive HdsAs (X : Cx) : List ExceptHandler → List Cls3 → Prop
  | nil : HdsAs X [] []
  | cons {x n : Str} {c : Value} {i : Nat} {ts : Addr → Value → Option Addr → TS} {b₀ : Stmt} {suite : List Stmt} {np pos' : Pos} {hds : List ExceptHandler} {l : List Cls3} (hi : X.N[i]? = some n) (hln : X.env.kindOf n = some .local) (hc : Names X x c)
      (hsu : ∀ (a : Addr) (oe : Obj) (cls : Value) (d : Option Addr) (pn : List (Addr × Obj)), Zc cls d oe → (∃ vs, oe.data = .fields vs) → PSs (X.suite a ((a, oe) :: pn)) (b₀ :: suite) (ts a cls d)) (r : HdsAs X hds l) :
      HdsAs X (.ExceptHandler (some (.Name x np)) (some n) (b₀ :: suite) pos' :: hds) (⟨c, i, ts⟩ :: l)
section
variable {X : Cx} {body : List Stmt} {h₀ : ExceptHandler} {hds : List ExceptHandler} {l : List Cls3} {pos : Pos} {tb : WX → TS} {Wout : WX}
theorem ps_try_manyAs (hs : X.stack = X.env :: X.outer) (hf : X.env.frame = some X.env.locals) (hN : X.N.Nodup) (tk : Takes X Wout)
    (hb : ∀ (W : WX) (pn : List (Addr × Obj)) (xe : Value → Shared → Prop), Takes (X.tr pn xe) W → PassesOwn (model X.prog X.w) X.A X.env xe → PSs (X.tr pn xe) body (tb W))
    (hh : HdsAs X (h₀ :: hds) l) : PS X (.Try body (h₀ :: hds) [] [] pos) (fun D σ H => tb (wManyAs X.K Wout D l) D σ H) := by
  refine ⟨fun pins s σ H D I h => ?_⟩
  have ok := I.ok
  have hfr : X.A.frames = some (X.env :: X.outer) := by rw [ok.frames, hs]
  refine wpAny_Try_except ?_
  refine wpAny_mono ((hb (wManyAs X.K Wout D l) (X.pn ++ pins) (fun e s₁ => wpAny (model X.prog X.w) X.A (noteFrame e X.env) (fun _ s₂ => wpAny (model X.prog X.w) X.A (setFlight e none) (fun _ s₃ =>
    wpAny (model X.prog X.w) X.A (handleBy e X.env (h₀ :: hds)) (SP X pins D) X.xe s₃) X.xe s₂) X.xe s₁) (fun u s' xx => ?_) PassesOwn.looking).run [] s σ H D (I.toTry _) h) (fun f s1 hsp => ?_) (fun e s1 he => he)
  · obtain ⟨a, B, sI, pins', σ', H', cls, d, rfl, J', nb, up, sky, na, os, ag, w⟩ := xx
    have J : Inv X pins σ' H' sI := J'.ofTry ok
    have sky' : Sky B (X.env :: X.outer) a (Zc cls d) X.env.locals s'.heap := by rw [← hs]; exact sky
    show wpAny (model X.prog X.w) X.A (noteFrame (.ref a) X.env) _ _ _
    refine Sky.land Zc.steady hfr hf sky' fun h3 fl3 up3 => ?_
    have J3 : Inv X pins σ' H' { s' with heap := h3 } := J.landed nb fl3.1 (up.trans up3) os ag
    obtain ⟨oe3, vs3, he3, hz3, hd3⟩ := fl3.there
    have notFr : ∀ {h : Heap} {o : Obj} {vs : Array Value}, h.FunFrames B (X.env :: X.outer) → h.get? a = some o → o.data = .fields vs → a ∉ frs (X.env :: X.outer) := fun {h o vs} ff e dd hm => by
      obtain ⟨_, o', e', hnf⟩ := ff.mem hm
      rw [e] at e'; cases e'
      exact hnf _ dd
    have nfr := notFr fl3.2.2.1 he3 hd3
    have nL : a ≠ X.env.locals := fun z => nfr (List.mem_filterMap.mpr ⟨X.env, List.mem_cons_self, by rw [hf, z]⟩)
    have nF : a ∉ X.fs := fun hm => by
      obtain ⟨e, he, q⟩ := List.mem_filterMap.mp hm
      exact nfr (List.mem_filterMap.mpr ⟨e, List.mem_cons_of_mem _ he, q⟩)
    have S3 := J3.suite he3 hd3 na nL nF
    have go : ∀ {hds' : List ExceptHandler} {l' : List Cls3}, HdsAs X hds' l' → wManyAs X.K Wout D l' cls d σ' H' →
        wpAny (model X.prog X.w) X.A (handleBy (.ref a) X.env hds') (SP X pins D) X.xe { s' with heap := h3 } := by
      intro hds' l' hk
      induction hk with
      | nil =>
        intro w
        refine wpAny_handleBy_nil ?_
        obtain ⟨k1, k2, k3, oe, vs, T, oT, ts', he, hz, hd, h1, hr⟩ := id fl3
        unfold PySem.passOn
        refine wpAny_bind (wpAny_field he hd h1 ?_)
        rw [if_neg (show ¬ ((Value.ref T == Value.none) = true) from by simp)]
        have fin : wpAny (model X.prog X.w) X.A (setFlight (.ref a) X.env.frame) (fun _ s4 => wpAny (model X.prog X.w) X.A (throw (.ref a) : Sem Flow) (SP X pins D) X.xe s4) X.xe { s' with heap := h3 } := by
          rw [hf]
          refine HandSPX.setFlight_upZ fl3 fun h4 hh4 up4 => wpAny_throw (tk _ _ ?_)
          exact ⟨a, B, sI, pins, σ', H', cls, d, rfl, J, nb, (up.trans up3).trans up4, .inr (.inr (by rw [hs]; exact hh4)), na, os, ag, w⟩
        first
          | exact wpAny_bind (wpAny_pure (wpAny_bind fin))
          | exact wpAny_bind fin
      | @cons x n c i ts b₀ suite np pos' hds2 l2 hi hln hc hsu r ih =>
        intro w
        obtain ⟨b, hb1, hyes, hno⟩ := w
        have hloc : Loc X.env.scope n := .inl hln
        refine wpAny_handleBy_cons (codeAny_handlers_test ?_) (by intro q; cases q)
        have LT : PySem.W.Looks (model X.prog X.w) h3 (typeOf (.ref a)) cls := fun A Q E s k q => wpAny_typeOf_ref (k _ _ he3) (by rw [hz3.1]; exact q)
        have LM := PySem.W.exm_one (M := model X.prog X.w) (J3.kIn) LT hb1
        have test : ∀ {Q : Value → Shared → Prop} {E : Value → Shared → Prop}, Q c { s' with heap := h3 } → wpAny (model X.prog X.w) (X.A.mark (some (.ref a))) (eval (.Name x np) X.env) Q E { s' with heap := h3 } := fun {Q E} q => by
          obtain ⟨hg, hdbg, hm | ⟨hm, hv, hnn⟩⟩ := hc
          · exact ld_glob (X := X.suite a ((a, oe3) :: (X.pn ++ pins))) S3 hg hm q hdbg
          · exact ld_blt (X := X.suite a ((a, oe3) :: (X.pn ++ pins))) S3 hg hm hv q hnn hdbg
        refine test (LM.here ?_)
        cases b with
        | true =>
          refine codeAny_handlers_suite_as ?_
          refine HandSPX.lands_againZ fl3 fun h4 fl4 up4 => ?_
          have J4 : Inv X pins σ' H' { s' with heap := h4 } := J.landed nb fl4.1 ((up.trans up3).trans up4) os ag
          obtain ⟨oe4, vs4, he4, hz4, hd4⟩ := fl4.there
          have S4 := J4.suite he4 hd4 na nL nF
          refine store_ok (X := X.suite a ((a, oe4) :: (X.pn ++ pins))) (v := .ref a) S4 hN hi hloc rfl (fun s5 S5 => ?_) (.inr hln)
          refine wpAny_mono ((hsu a oe4 cls d (X.pn ++ pins) hz4 ⟨_, hd4⟩).run [] s5 _ H' _ S5 (hyes rfl a na)) (fun f s6 hsp => ?_) (fun _ _ z => False.elim z)
          have end_ : ∀ {σ6 : L2.St} {H6 : Hp} {Q : Shared → Prop}, Inv (X.suite a ((a, oe4) :: (X.pn ++ pins))) [] σ6 H6 s6 → (∀ s7, Inv X pins (σ6.set i none) H6 s7 → Q s7) →
              wpAny (model X.prog X.w) X.A (do bindName X.env n .none; unbindBehindTheSuite X.env n pos') (fun _ s7 => Q s7) X.xe s6 := fun {σ6 H6 Q} S6 hq => gone_ok (S6.unsuite ok) hN hi hln hq
          cases f with
          | next =>
            obtain ⟨σ6, H6, S6, q6⟩ := hsp
            exact end_ S6 fun s7 J7 => ⟨_, _, J7, q6⟩
          | brk =>
            obtain ⟨σ6, H6, S6, q6⟩ := hsp
            exact end_ S6 fun s7 J7 => ⟨_, _, J7, q6⟩
          | cont =>
            obtain ⟨σ6, H6, S6, q6⟩ := hsp
            exact end_ S6 fun s7 J7 => ⟨_, _, J7, q6⟩
          | ret u =>
            obtain ⟨v6, σ6, H6, S6, r6, q6⟩ := hsp
            exact end_ S6 fun s7 J7 => ⟨_, _, _, J7, r6, q6⟩
        | false =>
          show wpAny _ X.A (handleBy (.ref a) X.env hds2) _ _ _
          exact ih (hno rfl)
    exact go hh w
  · cases f with
    | next =>
      obtain ⟨σ', H', J', q⟩ := hsp
      exact wpAny_execs_nil ⟨σ', H', J'.ofTry ok, q⟩
    | brk =>
      obtain ⟨σ', H', J', q⟩ := hsp
      exact ⟨σ', H', J'.ofTry ok, q⟩
    | cont =>
      obtain ⟨σ', H', J', q⟩ := hsp
      exact ⟨σ', H', J'.ofTry ok, q⟩
    | ret u =>
      obtain ⟨v, σ', H', J', r, q⟩ := hsp
      exact ⟨v, σ', H', J'.ofTry ok, r, q⟩
end
end J

set_option Elab.async false
set_option linter.all false
set_option maxRecDepth 100000
set_option maxHeartbeats 4000000
namespace J
open PySem PySem.Spec PySem.Calls L2 PyProof.Rows Builtin
/-! ### x == y, x != y by an own __eq__, y of any type; repr by an own __repr__ -/
def rEqO (K : PySem.W.Frag) (C : Addr) (sp : Sp) : R2 := fun x y H Q => ∃ a dx fs t, x = .ref a ∧ H a = some (.ins C dx fs) ∧ TyX K H y t ∧ PySem.W.notFirst K C t = true ∧ sp [.ref a, y] H (fun v H' => ∃ r, v = .bl r ∧ Q (.bl r) H') (fun _ _ _ => False)
def rNeO2 (K : PySem.W.Frag) (C : Addr) (sp : Sp) : R2 := fun x y H Q => ∃ a dx fs t, x = .ref a ∧ H a = some (.ins C dx fs) ∧ TyX K H y t ∧ PySem.W.notFirst K C t = true ∧ sp [.ref a, y] H (fun v H' => ∃ r, v = .bl r ∧ Q (.bl (!r)) H') (fun _ _ _ => False)
section
variable {X : Cx} {C : Addr} {sp : Sp} {k j : Nat}
theorem call_sp {f : Addr} {fd : FuncData} {ps : List Str} {A : Around} {pins : List (Addr × Obj)} {s : Shared} {σ : L2.St} {H : Hp} {R : V → Hp → Prop} {vs : List V} {us : List Value} (F : FnOk X.prog X.w X.K X.mg X.base CX0 k f fd ps sp) (hb : Binds X.K fd ps []) (I : Inv X pins σ H s) (hr : Room k A) (hf : A.frames = X.A.frames) (r2 : Vals vs us)
    (q : sp vs H R (fun _ _ _ => False)) : wpAny (model X.prog X.w) A (call (.ref f) us) (fun v s' => ∃ z H', Inv X pins σ H' s' ∧ RelV z v ∧ R z H') X.xe s := by
  have e0 : Env0 X.prog X.w X.K X.mg X.base A X.stack s H := by
    have e := I.env0
    exact ⟨by rw [hf]; exact e.frames, e.mod, e.bs, e.bsz, e.funs, e.frf, e.hok, e.bare⟩
  have hl : us.length = ps.length := r2.length.symm.trans (F.len _ _ _ _ q)
  refine wpAny_call (codeAny_mono (F.run A X.stack s H ⟨us, []⟩ us vs _ _ hr e0 (by
    have := hb s us I.kIn (by simpa using hl)
    simpa using this) r2 q) fun r s' hq => ?_)
  cases r with
  | error e => exact pass00 (X := X) σ pins H s e s' I hq
  | ok fl =>
    cases fl with
    | ret w =>
      obtain ⟨z, H', I', rz, q'⟩ := I.after hq
      exact ⟨z, H', I', rz, q'⟩
    | next => exact False.elim hq
    | brk => exact False.elim hq
    | cont => exact False.elim hq
theorem op_eqO (c : CEq X.prog X.w X.K X.mg X.base k C sp) (hr : Room j X.A) (hk : k + 1 ≤ j) : OpR X (compareOp .Eq) (rEqO X.K C sp) := by
  obtain ⟨f, fd, ps, F, hb, O⟩ := c.ex
  intro pins s σ H x y v u Q I rx ry hq
  obtain ⟨a, dx, fs, t, rfl, ha, ty, nf, q⟩ := hq
  cases rx
  obtain ⟨mA, J, _⟩ := ins_get I.hok ha
  obtain ⟨od, J, _⟩ := J.look
  obtain ⟨P, Z, p, hx⟩ := kit_of I ry ty
  obtain ⟨m, hF⟩ := I.fr
  have hr1 : Room k X.A := (hr.mono (by omega))
  show wpAny (model X.prog X.w) X.A (richCompare .Eq (.ref a) u) (EP X pins σ Q) X.xe s
  refine PySem.W.cmp_K (op := .Eq) (tb := t) hr1.units0 hF I.ok.mod.kin J (Z.ty _ _ I.kIn p) nf O.eq O.fn ?_
  refine wpAny_mono (call_sp F hb I hr1 rfl (show Vals [V.ref a, y] [Value.ref a, u] from .cons rfl (.cons ry .nil)) q) (fun v s' z => ?_) fun _ _ e => e
  obtain ⟨z, H', I', rz, r, rfl, q'⟩ := z
  cases rz
  exact ⟨.bl r, H', I', rfl, q'⟩
theorem op_neO2 (c : CEq X.prog X.w X.K X.mg X.base k C sp) (hr : Room j X.A) (hk : k + 1 ≤ j) : OpR X (compareOp .NotEq) (rNeO2 X.K C sp) := by
  obtain ⟨f, fd, ps, F, hb, O⟩ := c.ex
  intro pins s σ H x y v u Q I rx ry hq
  obtain ⟨a, dx, fs, t, rfl, ha, ty, nf, q⟩ := hq
  cases rx
  obtain ⟨mA, J, _⟩ := ins_get I.hok ha
  obtain ⟨od, J, _⟩ := J.look
  obtain ⟨P, Z, p, hx⟩ := kit_of I ry ty
  have hr1 : Room k X.A.in1 := (hr.mono hk).in1
  show wpAny (model X.prog X.w) X.A (richCompare .NotEq (.ref a) u) (EP X pins σ Q) X.xe s
  refine ne_own (tb := t) I.kIn J (Z.ty _ _ I.kIn p) nf O.eq O.fn O.ne O.ob (by have := hr.un; omega) ?_
  refine wpAny_mono (call_sp F hb I hr1 rfl (show Vals [V.ref a, y] [Value.ref a, u] from .cons rfl (.cons ry .nil)) q) (fun v s' z => ?_) fun _ _ e => e
  obtain ⟨z, H', I', rz, r, rfl, q'⟩ := z
  cases rz
  exact ⟨r, rfl, .bl (!r), H', I', rfl, q'⟩
end
section
variable {prog : Program} {w : World} {A : Around} {E : Value → Shared → Prop} {s : Shared} {K : PySem.W.Frag} {x C f : Addr} {ox : Obj} {od : Option Obj}
theorem repr_own {Q : Value → Shared → Prop} (hu : A.units + 1 < cLine) (X : K.In s.heap) (I : PySem.W.InstAt s.heap x ox C od) (hr : PySem.W.findIn K (.ref C) "__repr__" = some (some (.ref f))) (hf : PySem.W.isFn K (.ref f) = true)
    (h : wpAny (model prog w) A.in1 (call (.ref f) [.ref x]) (fun v s' => ∃ y t, v = .str y t ∧ Q v s') E s) : wpAny (model prog w) A (call (.builtin "repr") [.ref x]) Q E s := by
  refine Calls.call_function_entry PySem.F.kind_repr PySem.F.plain_repr PySem.F.entry_repr (PySem.F.args_repr1 _) ?_
  unfold Builtin.«repr»
  refine wpAny_bind (m := oneArg "repr" _) (wpAny_pure ?_)
  refine wpAny_bind (m := cRoomFor _ _) (wpAny_cRoomFor hu ?_)
  refine wpAny_bind (m := specialOf _ _) (wpAny_bind (I.type.here ((PySem.W.looks_findIn X hr).here ?_)))
  refine wpAny_bind (m := callSpecialIfBound? (.ref x) (Str.ofString "__repr__") _) (PySem.W.ifBound_K X I hr hf (wpAny_mono h (fun v s' hq => ?_) fun _ _ y => y))
  obtain ⟨y, t, rfl, hq⟩ := hq
  refine wpAny_bind (wpAny_isInstance (T := "str") (b := true) rfl isSubtype_str_str ?_)
  exact wpAny_pure ⟨_, rfl, hq⟩
end
/-- a class with an own __repr__ -/
structure CRp (P : Program) (w : World) (K : PySem.W.Frag) (mg : Str → Option Value) (base : Heap) (k : Nat) (C : Addr) (sp : Sp) : Prop where
  ex : ∃ (f : Addr) (fd : FuncData) (ps : List Str), FnOk P w K mg base CX0 k f fd ps sp ∧ Binds K fd ps [] ∧ PySem.W.findIn K (.ref C) "__repr__" = some (some (.ref f)) ∧ PySem.W.isFn K (.ref f) = true
def rReprO (C : Addr) (sp : Sp) (vs : List V) (H : Hp) (Q : VK) : Prop := ∃ a dx fs, vs = [.ref a] ∧ H a = some (.ins C dx fs) ∧ sp [.ref a] H (fun v H' => ∃ y, v = .str y ∧ Q v H') (fun _ _ _ => False)
theorem call_reprO {X : Cx} {C : Addr} {sp : Sp} {k j : Nat} (c : CRp X.prog X.w X.K X.mg X.base k C sp) (hr : Room j X.A) (hk : k + 1 ≤ j) : CallR X (.builtin "repr") (rReprO C sp) := by
  obtain ⟨f, fd, ps, F, hb, hre, hfn⟩ := c.ex
  intro pins s σ H xs us Q I r h
  obtain ⟨a, dx, fs, rfl, ha, q⟩ := h
  obtain ⟨u, rfl, rx⟩ := vals1 r
  cases rx
  obtain ⟨mA, J, _⟩ := ins_get I.hok ha
  obtain ⟨od, J, _⟩ := J.look
  have hr1 : Room k X.A.in1 := (hr.mono hk).in1
  refine repr_own (by have := hr.un; omega) I.kIn J hre hfn ?_
  refine wpAny_mono (call_sp F hb I hr1 rfl (show Vals [V.ref a] [Value.ref a] from .cons rfl .nil) q) (fun v s' z => ?_) fun _ _ e => e
  obtain ⟨z, H', I', rz, y, rfl, q'⟩ := z
  obtain ⟨t, rfl⟩ := rz
  exact ⟨y, t, rfl, .str y, H', I', ⟨t, rfl⟩, q'⟩
end J

set_option Elab.async false
set_option linter.all false
set_option maxRecDepth 100000
set_option maxHeartbeats 4000000
namespace J
open PySem PySem.Spec L2 PyProof.Rows
/-! ### shapes of data -/
structure Sh (k : Nat) (d : PyData) : Prop where
  lay : d.canLay0 = true
  dep : d.depth ≤ k
theorem Sh.mono {k k' : Nat} {d : PyData} (h : Sh k d) (l : k ≤ k') : Sh k' d := ⟨h.lay, Nat.le_trans h.dep l⟩
theorem Sh.shaped {k : Nat} {d : PyData} (h : Sh k d) (l : k ≤ 64) : SeqAt.shaped d = true := by
  have := h.dep
  unfold SeqAt.shaped
  rw [h.lay, decide_eq_true (by omega)]; rfl
theorem Sh.eqv {k : Nat} {d : PyData} (h : Sh k d) : PyData.eqv d d = true := SeqAt.eqv_refl d h.lay
theorem sh_all {k : Nat} : ∀ {ds : List PyData}, (∀ d ∈ ds, Sh k d) → PyData.canLayAll0 ds = true ∧ PyData.depthAll ds ≤ k
  | [], _ => ⟨rfl, Nat.zero_le _⟩
  | d :: ds, h => by
    obtain ⟨h1, h2⟩ := sh_all (ds := ds) fun e he => h e (List.mem_cons_of_mem _ he)
    have h3 := h d List.mem_cons_self
    refine ⟨?_, Nat.max_le.mpr ⟨h3.dep, h2⟩⟩
    show (d.canLay0 && PyData.canLayAll0 ds) = true
    rw [h3.lay, h1]; rfl
theorem Sh.list {k : Nat} {ds : List PyData} (h : ∀ d ∈ ds, Sh k d) : Sh (k + 1) (.list ds) := ⟨(sh_all h).1, Nat.succ_le_succ (sh_all h).2⟩
theorem Sh.tup {k : Nat} {ds : List PyData} (h : ∀ d ∈ ds, Sh k d) : Sh (k + 1) (.tuple ds) := ⟨(sh_all h).1, Nat.succ_le_succ (sh_all h).2⟩
theorem Sh.int {k : Nat} {i : Int} : Sh k (.int i) := ⟨rfl, Nat.zero_le _⟩
theorem Sh.str {k : Nat} {x : Str} (h : PyData.strOk x = true) : Sh k (.str x) := ⟨h, Nat.zero_le _⟩
theorem Sh.non {k : Nat} : Sh k .none := ⟨rfl, Nat.zero_le _⟩
theorem Sh.ints {k : Nat} {ns : List Int} : Sh (k + 1) (.list (ns.map .int)) := Sh.list fun d hd => by
  obtain ⟨n, _, rfl⟩ := List.mem_map.mp hd
  exact .int
theorem blk_sh {v : PyData} (h : blockB v = true) : Sh 9 v := ⟨blockB_lay h, by
  have := valB_dep v 0 (blockB_val h)
  omega⟩
theorem dwr_sh {k : Nat} {c : Int × PyData} (h : Sh k c.2) : Sh (k + 1) (dWr c) := Sh.tup fun d hd => by
  rcases List.mem_cons.mp hd with rfl | hd
  · exact .int
  · rw [List.mem_singleton.mp hd]; exact h
theorem r_neSh {K : PySem.W.Frag} {H : Hp} {Q : VK} {x y : V} {d : PyData} {k : Nat} (h1 : Dp K H x d) (h2 : Dp K H y d) (sh : Sh k d) (l : k ≤ 64) (q : Q (.bl false) H) : rNeA K x y H Q := by
  refine r_neD h1 h2 (sh.shaped l) (sh.shaped l) ?_
  rw [sh.eqv]
  exact q
theorem r_eqSh {K : PySem.W.Frag} {H : Hp} {Q : VK} {x y : V} {d : PyData} {k : Nat} (h1 : Dp K H x d) (h2 : Dp K H y d) (sh : Sh k d) (l : k ≤ 64) (q : Q (.bl true) H) : rEqA K x y H Q := by
  refine r_eqD h1 h2 (sh.shaped l) (sh.shaped l) ?_
  rw [sh.eqv]
  exact q
end J

set_option Elab.async false
set_option linter.all false
set_option maxRecDepth 100000
set_option maxHeartbeats 4000000
namespace J
open PySem PySem.Spec L2 PyProof.Rows
/-! ### sorted of a list of alike data -/
def sortZ (zs : List (V × PyData)) : List (V × PyData) := zs.mergeSort (PySem.W.dataLe false Prod.snd)
def sortedD (ds : List PyData) : List PyData := ds.mergeSort (PySem.W.dataLe false id)
theorem sortZ_snd (zs : List (V × PyData)) : (sortZ zs).map Prod.snd = sortedD (zs.map Prod.snd) := by
  unfold sortZ sortedD
  exact List.map_mergeSort fun a _ b _ => rfl
def rSortD (K : PySem.W.Frag) : List V → Hp → VK → Prop := fun vs H Q => ∃ (a : Addr) (xs : List V) (ds : List PyData), vs = [V.ref a] ∧ SqL K H a xs ∧ DpAll K H xs ds ∧ PySem.W.AllAlike ds ∧ PySem.W.Sortable ds ∧ (∀ d ∈ ds, d.depth ≤ 60) ∧
  ∀ p, H p = none → Q (.ref p) (upd H p (.lst ((sortZ (xs.zip ds)).map Prod.fst)))
theorem dpAll_len {K : PySem.W.Frag} {H : Hp} : ∀ {xs : List V} {ds : List PyData}, DpAll K H xs ds → xs.length = ds.length
  | _, _, .nil => rfl
  | _, _, .cons _ t => congrArg (· + 1) (dpAll_len t)
theorem eachV {us : List Value} {xs : List V} {ds : List PyData} (rv : Vals xs us) (hl : xs.length = ds.length) : PySem.W.EachIs (fun v (b : V × PyData) => RelV b.1 v) us (xs.zip ds) := by
  induction rv generalizing ds with
  | nil => cases ds with
    | nil => exact .nil
    | cons => cases hl
  | cons h t ih => cases ds with
    | nil => cases hl
    | cons d ds => exact .cons h (ih (by simpa using hl))
theorem eachR {h : Heap} : ∀ {us : List Value} {xs : List V} {ds : List PyData} {as : List Addr}, ReadsAll h us ds as → xs.length = ds.length → PySem.W.EachIs (fun v (b : V × PyData) => ∃ as, Reads h v b.2 as) us (xs.zip ds)
  | _, [], _, _, .nil, _ => .nil
  | _, x :: xs, _, _, .cons h t, hl => .cons ⟨_, h⟩ (eachR t (by simpa using hl))
  | _, [], _, _, .cons h t, hl => by cases hl
  | _, x :: xs, _, _, .nil, hl => by cases hl
theorem each_vals {us : List Value} {bs : List (V × PyData)} (h : PySem.W.EachIs (fun v (b : V × PyData) => RelV b.1 v) us bs) : Vals (bs.map Prod.fst) us := by
  induction h with
  | nil => exact .nil
  | cons h t ih => exact .cons h ih
theorem call_sortD {X : Cx} {K : PySem.W.Frag} (hu : X.A.units + 64 < cLine) (eK : X.K = K := by rfl) : CallR X (.builtin "sorted") (rSortD K) := by
  subst eK
  intro pins s σ H vs us Q I r h
  obtain ⟨a, xs, ds, rfl, hs, hd, al, so, dp, q⟩ := h
  obtain ⟨its, rv, hl, hz⟩ := I.list hs
  obtain ⟨u, rfl, ru⟩ := vals1 r
  obtain rfl : u = Value.ref a := ru
  have hlen := dpAll_len hd
  obtain ⟨as, ra⟩ := Dp.readsAll I ds xs its hd rv
  have ez : (xs.zip ds).map Prod.snd = ds := by rw [← List.unzip_snd, List.unzip_zip hlen]
  refine PySem.W.sorted_data (enc := Prod.snd) hl.isList (eachV rv hlen) (eachR ra hlen) (by rw [ez]; exact al) (by rw [ez]; exact so) (by rw [List.length_zip, ← hlen, Nat.min_self]; exact hz) (fun b hb => by
      have := dp b.2 (by rw [← ez]; exact List.mem_map.mpr ⟨b, hb, rfl⟩)
      omega) fun out ho e => ?_
  obtain ⟨n, hn⟩ := sortedAll_at s.heap its out.toArray
  have rv2 : Vals ((sortZ (xs.zip ds)).map Prod.fst) out := each_vals e
  refine ⟨.ref (s.heap.objs.size + 1), upd H (s.heap.objs.size + 1) (.lst ((sortZ (xs.zip ds)).map Prod.fst)), I.laid (t' := s.toks) (fun b u e => sortedAll_old e) (Nat.le_succ _) ⟨?_, out, n, rv2, hn⟩, rfl, q _ (I.hok.fresh (Nat.le_succ _))⟩
  rw [List.length_map, sortZ, List.length_mergeSort, List.length_zip, ← hlen, Nat.min_self]
  exact hz
theorem DnAll.zip {K : PySem.W.Frag} {S : List Addr} {H : Hp} : ∀ {xs : List V} {ds : List PyData}, DnAll K S H xs ds → ∀ z ∈ xs.zip ds, Dn K S H z.1 z.2
  | _, _, .nil, z, hz => by cases hz
  | _, _, .cons h t, z, hz => by
    rcases List.mem_cons.mp hz with rfl | hz
    · exact h
    · exact DnAll.zip t z hz
theorem DnAll.of_zip {K : PySem.W.Frag} {S : List Addr} {H : Hp} : ∀ {zs : List (V × PyData)}, (∀ z ∈ zs, Dn K S H z.1 z.2) → DnAll K S H (zs.map Prod.fst) (zs.map Prod.snd)
  | [], _ => .nil
  | z :: zs, h => .cons (h z List.mem_cons_self) (DnAll.of_zip fun y hy => h y (List.mem_cons_of_mem _ hy))
theorem DnAll.dp {K : PySem.W.Frag} {S : List Addr} {H : Hp} : ∀ {xs : List V} {ds : List PyData}, DnAll K S H xs ds → DpAll K H xs ds
  | _, _, .nil => .nil
  | _, _, .cons h t => .cons h.dp (DnAll.dp t)
/-- sorted(l): a new list; its items are those of l, its data those of l, sorted -/
theorem r_sortD {K : PySem.W.Frag} {S : List Addr} {H : Hp} {Q : VK} {a : Addr} {xs : List V} {ds : List PyData} (h : SqL K H a xs) (hd : DnAll K S H xs ds) (al : PySem.W.AllAlike ds) (so : PySem.W.Sortable ds) (dp : ∀ d ∈ ds, d.depth ≤ 60)
    (k : ∀ l ys H', H l = none → Same H H' → H' l = some (.lst ys) → DnAll K S H' ys (sortedD ds) → ys.Perm xs → Q (.ref l) H') : rSortD K [.ref a] H Q := by
  have hlen := dpAll_len hd.dp
  refine ⟨a, xs, ds, rfl, h, hd.dp, al, so, dp, fun p hp => ?_⟩
  have s1 : Same H (upd H p (.lst ((sortZ (xs.zip ds)).map Prod.fst))) := (But.new (S := []) hp).same
  have pm : (sortZ (xs.zip ds)).Perm (xs.zip ds) := List.mergeSort_perm _ _
  have ez : (xs.zip ds).map Prod.snd = ds := by rw [← List.unzip_snd, List.unzip_zip hlen]
  have ef : (xs.zip ds).map Prod.fst = xs := by rw [← List.unzip_fst, List.unzip_zip hlen]
  refine k p _ _ hp s1 upd_same ?_ ?_
  · have := DnAll.of_zip (K := K) (S := S) (H := H) (zs := sortZ (xs.zip ds)) fun z hz => hd.zip z (pm.mem_iff.mp hz)
    rw [sortZ_snd, ez] at this
    exact this.same s1
  · have := pm.map Prod.fst
    rw [ef] at this
    exact this
end J

set_option Elab.async false
set_option linter.all false
set_option maxRecDepth 100000
set_option maxHeartbeats 4000000
namespace J
open PySem PySem.Spec L2 PyProof.Rows
/-! ### C(e, .., k = v), its __init__ may raise -/
structure MakNX (P : Program) (w : World) (K : PySem.W.Frag) (mg : Str → Option Value) (base : Heap) (CX : CXT) (k : Nat) (x : Str) (C : Addr) (n : Nat) (ks : List Str) (sp : Sp) : Prop where
  ex : ∃ f fd ps g gV, Mk K C f ∧ FnOk P w K mg base CX k f fd ps sp ∧ mg x = some (.ref C) ∧ KBn K fd ps (n + 1) ks g gV ∧ gV = fun vs zs => vs ++ zs
def MkAtX (C : Addr) (n m : Nat) (sp : Sp) (E : XK) (vs zs : List V) (H : Hp) (Q : VK) : Prop := vs.length = n ∧ zs.length = m ∧ ∀ x dx, H x = none → H dx = none → dx ≠ x → sp (.ref x :: vs ++ zs) (upd (upd H dx (.own x)) x (.ins C dx [])) (fun v H3 => v = .non ∧ Q (.ref x) H3) E
def tMakeKX (C : Addr) (n m : Nat) (sp : Sp) (E : L2.St → XK) (t tk : TA) : TE := fun σ H Q => t σ H fun vs H1 => tk σ H1 fun zs H2 => MkAtX C n m sp (E σ) vs zs H2 Q
section
variable {X : Cx} {CX : CXT} {k j n : Nat} {f C : Addr} {fd : FuncData} {ps ks : List Str} {sp : Sp} {E : L2.St → XK} {x : Str} {p pos : Pos} {e : Expr} {es : List Expr} {kws : List Keyword} {t tk : TA} {g : List Value → List Value → List Value} {gV : List V → List V → List V}
theorem run_makeKX {pins : List (Addr × Obj)} {σ : L2.St} {H : Hp} {s : Shared} {Q : VK} {us ws : List Value} {vs zs : List V} (M : Mk X.K C f) (F : FnOk X.prog X.w X.K X.mg X.base CX k f fd ps sp) (hr : Room (k + 1) X.A) (hb : KBn X.K fd ps (n + 1) ks g gV) (hx : PassesAt CX X σ (E σ))
    (I : Inv X pins σ H s) (r : Vals vs us) (rz : Vals zs ws) (l1 : vs.length = n) (l2 : zs.length = ks.length)
    (h : ∀ x dx, H x = none → H dx = none → dx ≠ x → sp (gV (.ref x :: vs) zs) (upd (upd H dx (.own x)) x (.ins C dx [])) (fun v H2 => v = .non ∧ Q (.ref x) H2) (E σ)) :
    wpAny (model X.prog X.w) X.A (call (.ref C) us (ks.zip ws)) (EP X pins σ Q) X.xe s := by
  have hq := h (s.heap.objs.size + 1) s.heap.objs.size (I.hok.fresh (Nat.le_succ _)) (I.hok.fresh (Nat.le_refl _)) (Nat.ne_of_lt (Nat.lt_succ_self _))
  have I2 := Inv.made (C := C) I
  have r1 : Vals (V.ref (s.heap.objs.size + 1) :: vs) (Value.ref (s.heap.objs.size + 1) :: us) := .cons rfl r
  have r2 := hb.rel r1 rz
  have n1 : (Value.ref (s.heap.objs.size + 1) :: us).length = n + 1 := by
    rw [List.length_cons, ← r.length, l1]
  refine wpAny_call (make_map (f := f) I.kIn M.makes M.init (beq_iff_eq.mp M.fn) (codeAny_mono (F.run _ X.stack _ _ ⟨Value.ref (s.heap.objs.size + 1) :: us, ks.zip ws⟩ (g (Value.ref (s.heap.objs.size + 1) :: us) ws) _ _ (E σ) (hr.make C us (ks.zip ws))
    (I2.env0.make C us (ks.zip ws)) (hb.to _ (Value.ref (s.heap.objs.size + 1) :: us) ws I2.kIn n1 (rz.length.symm.trans l2)) r2 hq) fun r s' hq' => ?_))
  cases r with
  | error e => exact hx pins _ _ e s' I2 hq'
  | ok fl =>
    cases fl with
    | ret u =>
      obtain ⟨v, H', I3, rv, ev, q3⟩ := I2.after hq'
      subst ev
      exact ⟨rv, ⟨V.ref (s.heap.objs.size + 1), H', I3, rfl, q3⟩⟩
    | next => exact False.elim hq'
    | brk => exact False.elim hq'
    | cont => exact False.elim hq'
theorem pe_mkNX (c : MakNX X.prog X.w X.K X.mg X.base CX k x C n ks sp) (hr : Room j X.A) (hk : k + 1 ≤ j) (hx : ∀ σ, PassesAt CX X σ (E σ)) (ha : PA X (e :: es) t) (hkw : PK X kws tk) (hg : Gl X x := by rfl)
    (hall : (backToKw pos (keywordEach kws X.env)).all (·.1.isSome) = true := by rfl) (hks : (backToKw pos (keywordEach kws X.env)).filterMap (·.1) = ks := by rfl) (hdb : (x == ("__debug__" : Str)) = false := by decide)
    (he : starEach (e :: es) X.env = (false, eval e X.env) :: starEach es X.env := by rfl) (hpl : ((backTo pos (starEach (e :: es) X.env)).any (·.1) || (backToKw pos (keywordEach kws X.env)).any (·.1.isNone)) = false := by rfl) :
    PE X (.Call (.Name x p) (e :: es) kws pos) (tMakeKX C n ks.length sp E t tk) := by
  obtain ⟨f, fd, ps, g, gV, M, F, hm, hb, eg⟩ := c.ex
  subst eg
  refine ⟨fun pins s σ H Q I h => ?_⟩
  refine wpAny_Call_Name_kw (ld_glob I hg hm ?_ hdb)
  refine PySem.W.callWith_KW (h₀ := X.base) I.ok.mod.kin M.kp hall (thn (ha.run pos pins s σ H _ I h) fun us s1 ⟨vs, H1, I1, r, q⟩ => ?_) hpl he
  refine thn (hkw.run pos pins s1 σ H1 _ I1 q) fun ws s2 ⟨zs, H2, I2, rz, l1, l2, q2⟩ => ⟨I2.kIn, ?_⟩
  rw [hks]
  exact run_makeKX M F (hr.mono hk) hb (hx σ) I2 r rz l1 l2 q2
end
theorem r_mkNX {C : Addr} {n m : Nat} {sp : Sp} {E : L2.St → XK} {t tk : TA} {σ : L2.St} {H : Hp} {Q : VK} (k : t σ H fun vs H1 => tk σ H1 fun zs H2 => MkAtX C n m sp (E σ) vs zs H2 Q) : tMakeKX C n m sp E t tk σ H Q := k
theorem r_mkNXAt {C : Addr} {n m : Nat} {sp : Sp} {E : XK} {vs zs : List V} {H : Hp} {Q : VK} (h1 : vs.length = n) (h2 : zs.length = m) (k : ∀ x dx H', H x = none → Same H H' → H' x = some (.ins C dx []) → sp (.ref x :: (vs ++ zs)) H' (fun v H2 => v = .non ∧ Q (.ref x) H2) E) : MkAtX C n m sp E vs zs H Q :=
  ⟨h1, h2, fun x dx hx hd hn => k x dx _ hx (fun b o e => by
    rw [upd_ne (ne_of_none e hx), upd_ne (ne_of_none e hd)]; exact e) upd_same⟩
end J

set_option Elab.async false
set_option linter.all false
set_option maxRecDepth 100000
set_option maxHeartbeats 4000000
/-! ### the head by one kernel run; the facts by a Hook of tests -/
namespace J
open PySem PySem.Spec L2 PyProof.Rows
/-- a test of the written part -/
abbrev Fc : Type := PySem.W.Frag → Bool
def mem0 (m : Nat) (a : Nat) : Bool := Nat.testBit m a
/-- each address once -/
def oncesF : List Addr → Nat → List Addr → List Addr × Nat
  | [], m, acc => (acc, m)
  | a :: r, m, acc => match Nat.testBit m a with
    | true => oncesF r m acc
    | false => oncesF r (Nat.lor m (Nat.shiftLeft 1 a)) (a :: acc)
/-- what stands n steps from these names -/
def growJ (g : Addr → Option Obj) : Nat → List Addr → Nat → List Addr → List Addr
  | 0, _, _, acc => acc
  | n + 1, new, m, acc => match oncesF (new.flatMap fun a => match g a with
      | some o => He.refsD o
      | none => []) m [] with
    | (new', m') => growJ g n new' m' (new' ++ acc)
def asJ (g : Addr → Option Obj) (n : Nat) : List Addr := growJ g n [mainGlobals] (Nat.shiftLeft 1 mainGlobals) [cStatics, mainGlobals]
def obsJ (fa : List (List Fc)) (fn : List He.DefD) (K : PySem.W.Frag) : He.AlD := ((fa.all fun l => l.all fun f => f K) && fn.all fun d => d.ok K, fn.map fun d => He.fnW K d.at_)
def SaysJ (fa : List (List Fc)) (fn : List He.DefD) (K : PySem.W.Frag) : Prop := obsJ fa fn K = He.valD fn
def obsJG (n : Nat) (fa : List (List Fc)) (fn : List He.DefD) (g : Addr → Option Obj) : He.AlD := obsJ fa fn (He.frG g (asJ g n))
def hookJ (n : Nat) (fa : List (List Fc)) (fn : List He.DefD) : PySem.W.Hook where
  α := He.AlD
  obs := fun s => obsJG n fa fn s.heap.get?
  val := fun _ => He.valD fn
  says := fun _ h => ∃ K : PySem.W.Frag, K.In h ∧ SaysJ fa fn K
  of := fun _ _ e => ⟨_, He.frG_in, e⟩
  keeps := fun _ _ _ ⟨K, hK, c⟩ k => ⟨K, PySem.W.Frag.In.keeps hK k, c⟩
theorem obsJG_eq {n : Nat} {fa : List (List Fc)} {fn : List He.DefD} {g : Addr → Option Obj} {s : Shared} (h : ∀ a, g a = s.heap.get? a) : obsJG n fa fn g = (hookJ n fa fn).obs s := by
  have e : g = s.heap.get? := funext h
  rw [e] <;> rfl
section
variable {fa : List (List Fc)} {fn : List He.DefD} {K : PySem.W.Frag}
theorem SaysJ.part (c : SaysJ fa fn K) (i : Nat) {l : List Fc} (h : fa[i]? = some l := by rfl) : (l.all fun f => f K) = true := by
  have c1 := (He.ba (show ((fa.all fun l => l.all fun f => f K) && fn.all fun d => d.ok K) = true from congrArg (fun z : He.AlD => z.1) c)).1
  exact List.all_eq_true.mp c1 l (List.mem_of_getElem? h)
theorem SaysJ.def_ (c : SaysJ fa fn K) (i : Nat) {d : He.DefD} (h : fn[i]? = some d := by rfl) : ∃ fd, FunD K d.name d.qual d.params d.body d.scope (d.dvs K) (d.kws K) (He.fAd K d.at_) fd := by
  have c2 := (He.ba (show ((fa.all fun l => l.all fun f => f K) && fn.all fun d => d.ok K) = true from congrArg (fun z : He.AlD => z.1) c)).2
  have e : fn.map (fun d => He.fnW K d.at_) = fn.map He.DefD.val := congrArg (fun z : He.AlD => z.2) c
  have e2 : (fn.map fun d => He.fnW K d.at_)[i]? = (fn.map He.DefD.val)[i]? := by rw [e]
  rw [List.getElem?_map, List.getElem?_map, h] at e2
  exact He.DefD.funD (Option.some.inj e2) (List.all_eq_true.mp c2 d (List.mem_of_getElem? h))
end
/-! ### tests of classes, of exceptions -/
def oexL (K : PySem.W.Frag) (C : Addr) : Bool := match K.lookup C with
  | some ⟨.type "type", _, .cls cd, sl⟩ => (match cd.mro, sl.toList with
    | .ref C' :: bm, [_, _, _, _, some (.builtin n), _] => C' == C && n == "ValueError.__new__" && !cd.hasDel && cd.hasDict && PySem.HandSPX.refsVE bm
    | _, _ => false)
  | _ => false
def oexB (K : PySem.W.Frag) (C : Addr) : Bool := oexL K C && (He.eqO (PySem.W.findIn K (.ref C) "__setattr__") (some (some (.builtin "object.__setattr__"))) && (decide (PySem.W.subIn K (.ref C) (.type "BaseException") = some true) &&
  (decide (PySem.W.typeIn K (.ref C) = some (.type "type")) && PySem.W.keepIn K (.ref C))))
theorem oexL_ok {K : PySem.W.Frag} {C : Addr} (q : oexL K C = true) : ∃ nm qn N bs bm sn sub ab col dd k0 k1 k2 k3 k5, K.lookup C = some (excClassObj nm qn C N bs bm true sn sub ab col dd k0 k1 k2 k3 k5 "ValueError.__new__") ∧ PySem.HandSPX.refsVE bm = true := by
  unfold oexL at q
  split at q
  · rename_i dd cd sl ho
    split at q
    · rename_i C' bm k0 k1 k2 k3 n k5 hm hs
      simp only [Bool.and_eq_true, beq_iff_eq, Bool.not_eq_true'] at q
      obtain ⟨⟨⟨⟨rfl, rfl⟩, hdel⟩, hdi⟩, hb⟩ := q
      obtain ⟨nm, bs, mro, ns, qn, hd, sn, sub, ab, col, del⟩ := cd
      dsimp only at hm hdel hdi
      subst hm hdel hdi
      have hsl : sl = #[k0, k1, k2, k3, some (.builtin "ValueError.__new__"), k5] := by
        obtain ⟨l⟩ := sl
        simp only at hs
        rw [hs]
      subst hsl
      exact ⟨nm, qn, ns, bs, bm, sn, sub, ab, col, dd, k0, k1, k2, k3, k5, ho, hb⟩
    · cases q
  · cases q
theorem oexB_ok {K : PySem.W.Frag} {C : Addr} (h : oexB K C = true) : OexC K C := by
  obtain ⟨h1, h⟩ := He.ba h
  obtain ⟨h2, h⟩ := He.ba h
  obtain ⟨h3, h⟩ := He.ba h
  obtain ⟨h4, h5⟩ := He.ba h
  exact ⟨oexL_ok h1, He.eqO_ok h2, of_decide_eq_true h3, of_decide_eq_true h4, h5⟩
def cfB (x : Option PySem.W.CFound) (v : Value) : Bool := match x with
  | some (.val u) => decide (u = v)
  | _ => false
theorem cfB_ok {x : Option PySem.W.CFound} {v : Value} (h : cfB x v = true) : x = some (.val v) := by
  unfold cfB at h
  split at h
  · rw [of_decide_eq_true h]
  · cases h
/-! ### defs -/
section
variable {P : Program} {w : World} {K : PySem.W.Frag} {mg : Str → Option Value} {base : Heap} {x q y : Str} {st : Stmt} {f : Addr} {fd : FuncData} {ps : List Str}
theorem fun_of (F : FunD K x q (defArgs st) (defBody st) (defScope st) [] [] f fd) : Fun K x q st f fd := by
  obtain ⟨oc, od, dV, kV, doc, pm, an, cdv, ct, osl, rfl, lk, hcd, hD, hK⟩ := F.ex
  rcases hD with ⟨_, rfl⟩ | ⟨e, _⟩
  · exact ⟨⟨oc, od, kV, doc, pm, an, cdv, ct, osl, rfl, lk, hcd⟩, F.kp⟩
  · exact absurd rfl e
theorem kbn_of {n : Nat} {ks : List Str} {g : List Value → List Value → List Value} {gV : List V → List V → List V} (F : Fun K x q st f fd)
    (h : ∀ (kV doc pm : Value) (an : Option Addr) (cdv ct : Value), KBn K (PySem.W.fnOf x q (defArgs st) (defBody st) (defScope st) .none kV doc pm an cdv ct) ps n ks g gV) : KBn K fd ps n ks g gV := by
  obtain ⟨oc, od, kV, doc, pm, an, cdv, ct, osl, rfl, lk, hcd⟩ := F.ex
  exact h kV doc pm an cdv ct
theorem kbn_ofD {n : Nat} {ks : List Str} {kws : List (Str × V)} {g : List Value → List Value → List Value} {gV : List V → List V → List V} (F : FunD K x q (defArgs st) (defBody st) (defScope st) [] kws f fd)
    (h : ∀ (kV doc pm : Value) (an : Option Addr) (cdv ct : Value), KBn K (PySem.W.fnOf x q (defArgs st) (defBody st) (defScope st) .none kV doc pm an cdv ct) ps n ks g gV) : KBn K fd ps n ks g gV := by
  obtain ⟨oc, od, dV, kV, doc, pm, an, cdv, ct, osl, rfl, lk, hcd, hD, hK⟩ := F.ex
  rcases hD with ⟨_, rfl⟩ | ⟨e, _⟩
  · exact h kV doc pm an cdv ct
  · exact absurd rfl e
theorem bindsTo_of (F : Fun K x q st f fd) (h : ∀ (kV doc pm : Value) (an : Option Addr) (cdv ct : Value) (s : Shared) (v : Value), BindsTo s (PySem.W.fnOf x q (defArgs st) (defBody st) (defScope st) .none kV doc pm an cdv ct) ⟨[v], []⟩ [(y, v)]) (s : Shared) (v : Value) : BindsTo s fd ⟨[v], []⟩ [(y, v)] := by
  obtain ⟨oc, od, kV, doc, pm, an, cdv, ct, osl, rfl, lk, hcd⟩ := F.ex
  exact h kV doc pm an cdv ct s v
end
/-- the end of a law over a head by facts -/
theorem walk_ofH {l : PySem.W.OpenLaw} {n k : Nat} {q : Program} {loose : List Str} {XP : (Str → Option Value) → Heap → Prop} {YP : World → Heap → Prop} {d : DefRec} {x : Str}
    (hn : l.most = some n) (hn2 : n ≤ sizeLine) (hdf : d.params.defaults = []) (hr : Room k callerA)
    (F : ∀ (w : World) (mg : Str → Option Value) (fa : Addr) (h : Heap), YP w h → h.Ns mainGlobals mg → mg d.name = some (.ref fa) →
      ∃ (K : PySem.W.Frag) (fd : FuncData) (sp : Sp), K.In h ∧ (∀ (s : Shared) (u : Value), BindsTo s fd ⟨[u], []⟩ [(x, u)]) ∧
        (∀ (H : Hp) (a : Addr) (ns : List Int), ns.length ≤ n → Only H → SqL K H a (ns.map V.int) → sp [.ref a] H (fun v _ => v = .bl true) fun _ _ _ => False) ∧
        ∀ base : Heap, K.In base → base.Ns mainGlobals mg → FnG l.prog w K mg base CX0 k fa fd [x] sp) :
    PySem.W.WalkO q loose XP YP l.row.toRowW d [] (fun f vs => PySem.call f vs) := by
  refine Att.attach_call hn hdf fun w s₀ s₁ mg mb fa o pm cd doc a vs ns G Y ho hd hcd hmg hobj hints hlen hg => ?_
  obtain ⟨K, fd, sp, KX, hb, hsp, hF⟩ := F w mg fa _ Y G.T.g hmg
  exact law_runG KX G.T.g G.T.b G.T.builtins G.T.nolimit hg hobj hints (Nat.le_trans hlen hn2) hr hF hb (fun H hO hS => hsp H a ns hlen hO hS)
end J

set_option Elab.async false
set_option linter.all false
set_option maxRecDepth 100000
set_option maxHeartbeats 4000000
namespace J
open PySem PySem.Spec L2 PyProof.Rows
/-! ### in a list or a dict; max of a list; dict of a list of pairs; the dicts of a law about kept transactions -/
def rInDk : R2 := fun x y H Q => ∃ a o, y = .ref a ∧ DGet H a x o ∧ Q (.bl o.isSome) H
def rNiDk : R2 := fun x y H Q => ∃ a o, y = .ref a ∧ DGet H a x o ∧ Q (.bl (!o.isSome)) H
def rDictP (K : PySem.W.Frag) : List V → Hp → VK → Prop := fun xs H Q => ∃ (a : Addr) (ps : List Addr) (kvs : List (Key × V)), xs = [.ref a] ∧ SqL K H a (ps.map V.ref) ∧ Paired (fun p kv => SqT K H p [kV kv.1, kv.2]) ps kvs ∧
    ∀ p, H p = none → Q (.ref p) (upd H p (.dK (mergeK [] kvs)))
def rInLD (K : PySem.W.Frag) : R2 := fun x y H Q => rInA K x y H Q ∨ rInDk x y H Q
section
variable {X : Cx} {K : PySem.W.Frag} {S : List Addr} {H H' : Hp}
theorem op_inDk (hu : X.A.units + 1 < cLine) : OpR X (compareOp .In) rInDk := by
  rintro pins s σ H x y v u Q I rx ry ⟨a, o, rfl, g, q⟩
  obtain rfl : u = Value.ref a := ry
  exact d_in hu I g rx fun s3 I3 => ⟨.bl o.isSome, H, I3, rfl, q⟩
theorem op_inLD (hu : X.A.units + 65 < cLine) (e : X.K = K := by rfl) : OpR X (compareOp .In) (rInLD K) :=
  OpR.or (op_inA hu e) (op_inDk (by omega))
theorem cr_maxA (hc : X.calm = true) (e : X.K = K := by rfl) : CallR X (.builtin "max") (rMax K) := by subst e; exact cr_max hc
theorem call_dictPA (hc : X.calm = true) (e : X.K = K := by rfl) : CallR X (.type "dict") (rDictP K) := by subst e; exact call_dictP hc
theorem putK_new {kvs : List (Key × V)} {k : Key} {v : V} (h : k ∉ kvs.map (·.1)) : putK kvs k v = kvs ++ [(k, v)] := by
  unfold putK
  rw [if_neg]
  intro z
  obtain ⟨kv, hm, e⟩ := List.any_eq_true.mp z
  exact h (List.mem_map.mpr ⟨kv, hm, of_decide_eq_true e⟩)
theorem mergeK_new : ∀ {more kvs : List (Key × V)}, ((kvs ++ more).map (·.1)).Nodup → mergeK kvs more = kvs ++ more
  | [], kvs, _ => (List.append_nil kvs).symm
  | (k, v) :: r, kvs, n => by
    show mergeK (putK kvs k v) r = _
    rw [putK_new, mergeK_new (kvs := kvs ++ [(k, v)])]
    · simp
    · simpa using n
    · intro z
      rw [List.map_append, List.map_cons] at n
      exact (List.nodup_append.mp n).2.2 k z k List.mem_cons_self rfl
theorem nodup_inl {l : List Int} (n : l.Nodup) : (l.map (Sum.inl : Int → Key)).Nodup := List.pairwise_map.mpr (n.imp fun h e => h (Sum.inl.inj e))
/-- pairs of a list: from the data to the dict -/
theorem pairs_of : ∀ {xs : List V} {cs : List (Int × PyData)}, DnAll K S H xs (cs.map dWr) → ∃ (ps : List Addr) (kvs : List (Key × V)), xs = ps.map V.ref ∧ Paired (fun p kv => SqT K H p [kV kv.1, kv.2]) ps kvs ∧ KvD K S H kvs cs
  | xs, [], h => by
    obtain rfl := h.nil_inv
    exact ⟨[], [], rfl, .nil, .nil⟩
  | xs, c :: cs, h => by
    obtain ⟨y, ys, rfl, h1, h2⟩ := h.cons_inv
    obtain ⟨ps, kvs, rfl, h3, h4⟩ := pairs_of h2
    obtain ⟨p, zs, rfl, hp, hz1⟩ := h1.tup_inv
    obtain ⟨n, _, rfl, hn, hz2⟩ := hz1.cons_inv
    obtain ⟨v, _, rfl, hv, hz3⟩ := hz2.cons_inv
    obtain rfl := hz3.nil_inv
    cases hn
    exact ⟨p :: ps, (.inl c.1, v) :: kvs, rfl, .cons hp h3, .cons hv h4⟩
theorem r_dictL {a : Addr} {xs : List V} {cs : List (Int × PyData)} {Q : VK} (ha : H a = some (.lst xs)) (hx : DnAll K [] H xs (cs.map dWr)) (n : (cs.map (·.1)).Nodup) (nl : ∀ c ∈ cs, noL c.2 = true)
    (k : ∀ p kvs H', H p = none → Same H H' → H' p = some (.dK kvs) → KvD K [] H' kvs cs → Q (.ref p) H') :
    rDictP K [.ref a] H Q := by
  obtain ⟨ps, kvs, rfl, h1, h2⟩ := pairs_of hx
  refine ⟨a, ps, kvs, rfl, .of ha, h1, fun p hp => ?_⟩
  rw [mergeK_new (kvs := []) (by
    rw [List.nil_append, h2.keys]
    exact nodup_inl n)]
  have s1 : Same H (upd H p (.dK ([] ++ kvs))) := (But.new (S := []) hp).same
  exact k p kvs _ hp s1 upd_same (h2.same s1)
theorem r_maxI {a : Addr} {ns : List Int} {m : Int} {Q : VK} (h : SqL K H a (ns.map V.int)) (hm : m ∈ ns) (hx : ∀ y ∈ ns, y ≤ m) (k : Q (.int m) H) : rMax K [.ref a] H Q :=
  ⟨a, ns, rfl, h, List.length_pos_of_mem hm, fun m' h1 h2 => by
    have e : m' = m := Int.le_antisymm (hx m' h1) (h2 m hm)
    rw [e]; exact k⟩
theorem r_popAt {l : Addr} {x : V} {xs : List V} {Q : VK} (h : H l = some (.lst (x :: xs))) (k : ∀ H', But [l] H H' → H' l = some (.lst xs) → Q x H') : rPopAt (.ref l) [.int 0] H Q :=
  ⟨l, x :: xs, 0, 0, x, rfl, rfl, h, by decide, by decide, by unfold seqIndex?; simp, rfl, k _ (But.write h (fun z => z) (by simp)) upd_same⟩
end
section
variable (l c r n h s x : V)
def nF : List (L2.Key × V) := [(.inr "kept", l), (.inr "copies", c), (.inr "revokes", r), (.inr "number", n), (.inr "head", h), (.inr "slots", s)]
theorem nv_kept : valV (nF l c r n h s) (.inr "kept") = some l := by with_unfolding_all rfl
theorem nv_copies : valV (nF l c r n h s) (.inr "copies") = some c := by with_unfolding_all rfl
theorem nv_revokes : valV (nF l c r n h s) (.inr "revokes") = some r := by with_unfolding_all rfl
theorem nv_number : valV (nF l c r n h s) (.inr "number") = some n := by with_unfolding_all rfl
theorem nv_head : valV (nF l c r n h s) (.inr "head") = some h := by with_unfolding_all rfl
theorem nv_slots : valV (nF l c r n h s) (.inr "slots") = some s := by with_unfolding_all rfl
theorem np_copies : putK (nF l c r n h s) (.inr "copies") x = nF l x r n h s := by with_unfolding_all rfl
theorem np_revokes : putK (nF l c r n h s) (.inr "revokes") x = nF l c x n h s := by with_unfolding_all rfl
theorem np_number : putK (nF l c r n h s) (.inr "number") x = nF l c r x h s := by with_unfolding_all rfl
theorem np_head : putK (nF l c r n h s) (.inr "head") x = nF l c r n x s := by with_unfolding_all rfl
theorem nm6 : mergeK [] (nF l c r n h s) = nF l c r n h s := by with_unfolding_all rfl
end
section
variable (n z c r l x : V)
def qF4 : List (L2.Key × V) := [(.inr "number", n), (.inr "size", z), (.inr "copies", c), (.inr "revokes", r)]
def qF : List (L2.Key × V) := [(.inr "number", n), (.inr "size", z), (.inr "copies", c), (.inr "revokes", r), (.inr "left", l)]
theorem qv_number : valV (qF n z c r l) (.inr "number") = some n := by with_unfolding_all rfl
theorem qv_size : valV (qF n z c r l) (.inr "size") = some z := by with_unfolding_all rfl
theorem qv_copies : valV (qF n z c r l) (.inr "copies") = some c := by with_unfolding_all rfl
theorem qv_revokes : valV (qF n z c r l) (.inr "revokes") = some r := by with_unfolding_all rfl
theorem qv_left : valV (qF n z c r l) (.inr "left") = some l := by with_unfolding_all rfl
theorem qp_left4 : putK (qF4 n z c r) (.inr "left") x = qF n z c r x := by with_unfolding_all rfl
theorem qp_left : putK (qF n z c r l) (.inr "left") x = qF n z c r x := by with_unfolding_all rfl
theorem qm4 : mergeK [] (qF4 n z c r) = qF4 n z c r := by with_unfolding_all rfl
end
end J

set_option Elab.async false
set_option linter.all false
set_option maxRecDepth 100000
set_option maxHeartbeats 4000000
namespace J
open PySem PySem.Spec L2 L2.DX PyProof.Rows
/-! ### [.. for k in d ..], the dict locked meanwhile -/
def LcK (g : TG) (tt : TT) (te : TE) (vs : List Nat) (σ : L2.St) (Q : VK) (x : V) (H1 : Hp) : Prop := ∃ d o, x = .ref d ∧ ((∃ kvs, H1 d = some (.frz o (.dK kvs)) ∧ LcG (Itk d o kvs) g tt te vs σ Q H1) ∨ ∃ kvs, H1 d = some (.frz o (.dT kvs)) ∧ LcG (Itkt d o kvs) g tt te vs σ Q H1)
section
variable {g : TG} {tt : TT} {te td : TE} {vs : List Nat} {σ : L2.St} {H : Hp} {Q : VK} {d : Addr} {kvs : List (L2.Key × V)}
def UnL (d : Addr) (o : Obj) (u : HO) (Q : VK) : VK := fun v H' => H' d = some (.frz o u) ∧ Q v (upd H' d u)
theorem r_lcK (hd : H d = some (.dK kvs)) (k : ∀ o H0, H0 d = some (.frz o (.dK kvs)) → (∀ b, b ≠ d → H0 b = H b) → td σ H0 fun x H1 => LcK g tt te vs σ (UnL d o (.dK kvs) Q) x H1) : tLockE (tLc (iKeys td) g tt te vs) σ H Q :=
  ⟨d, .dK kvs, hd, trivial, fun od => k od _ upd_same (fun b n => upd_ne n)⟩
theorem lcK {o : Obj} (h : H d = some (.frz o (.dK kvs))) (mk : ∀ l H0, H l = none → Same H H0 → H0 l = some (.lst []) → ∃ Pv : Nat → Hp → Prop, Pv 0 H0 ∧ (∀ i H, i ≤ kvs.length → Pv i H → H d = some (.frz o (.dK kvs))) ∧
      (∀ i k v H, kvs[i]? = some (k, v) → Pv i H → LTurn g tt te vs l (Pv (i + 1)) (kV k) σ H) ∧ ∀ H, Pv kvs.length H → Q (.ref l) (upd H d (.dK kvs))) : LcK g tt te vs σ (UnL d o (.dK kvs) Q) (.ref d) H := by
  refine ⟨d, o, rfl, .inl ⟨kvs, h, fun l hl => ?_⟩⟩
  obtain ⟨Pv, h0, h1, h2, h3⟩ := mk l _ hl (But.new (S := []) hl).same upd_same
  refine ⟨fun i m H => m = kvs.length - i ∧ i ≤ kvs.length ∧ Pv i H, ⟨_, rfl, Nat.zero_le _, h0⟩, ?_⟩
  rintro i m H ⟨rfl, hi, p⟩
  have q := h1 i H hi p
  by_cases hlt : i < kvs.length
  · refine .inr ⟨⟨q, hlt⟩, Pv (i + 1), fun H' p' => ⟨kvs.length - (i + 1), by omega, rfl, hlt, p'⟩, fun x H' y => ?_⟩
    obtain ⟨rfl, k, v, e, rfl⟩ := y
    exact h2 i k v _ e p
  · have e : i = kvs.length := by omega
    subst e
    exact .inl ⟨⟨q, Nat.le_refl _⟩, q, h3 H p⟩
end
end J

set_option Elab.async false
set_option linter.all false
set_option maxRecDepth 100000
set_option maxHeartbeats 4000000
/-! ends of iterators while an exception is handled -/
namespace J
open PySem PySem.Spec PyProof.Rows L2 HotX
section
variable {prog : Program} {w : World} {A : Around} {E : Value → Shared → Prop} {s : Shared} {x1 : Addr}
/-- StopIteration raised while x1 is handled -/
theorem stop_hot {α : Type} {Q : α → Shared → Prop} (hot : HotAt A x1 s.heap)
    (k : ∀ (h' : Heap) (e : Addr) (o : Obj), (∀ b u, s.heap.get? b = some u → h'.get? b = some u) → h'.get? e = some o → o.cls = .type "StopIteration" → E (.ref e) { s with heap := h' }) :
    wpAny (model prog w) A (newExc (.type "StopIteration") [] >>= fun e => (raiseNew e : Sem α)) Q E s := by
  obtain ⟨hh, o1, vs1, h1, d1, c1⟩ := hot
  refine wpAny_bind ?_; simp only [newExc, newTuple]
  refine wpAny_bind (wpAny_newObj_type (wpAny_bind (m := firstArgMember _ _) (wpAny_of_eq (a := Value.none) ?_ (wpAny_newObj_type (raiseNew_hot (x1 := x1) ⟨hh, o1, vs1, ?_, d1, c1⟩ ?_ (Heap.get?_push_size _ rfl) rfl ?_ ?_) (by size_fits)))) (by size_fits))
  · first | rfl | (simp only [firstArgMember]; rfl)
  · exact Heap.get?_push_of_some _ (Heap.get?_push_of_some _ h1)
  · exact Nat.ne_of_lt (Heap.lt_size (Heap.get?_push_of_some _ h1))
  · first | (simp; done) | (simp; omega) | (simp only [Array.size_append]; simp; omega)
  · refine k _ _ _ (fun b u e => ?_) (Heap.get?_update_self _ (Heap.get?_push_size _ rfl) rfl) rfl
    rw [Heap.get?_update_other _ _ (Nat.ne_of_gt (Heap.lt_size (Heap.get?_push_of_some _ e)))]
    exact Heap.get?_push_of_some _ (Heap.get?_push_of_some _ e)
/-- caught by the walk -/
theorem stop_caught {e : Addr} {o : Obj} {Q : Option Value → Shared → Prop} (h : s.heap.get? e = some o) (c : o.cls = .type "StopIteration") (q : Q none s) :
    wpAny (model prog w) A (do if ← isInstance (.ref e) (.type "StopIteration") then pure none else throw (.ref e) : Sem (Option Value)) Q E s :=
  wpAny_bind (wpAny_isInstance (b := true) ⟨o, h, c⟩ isSubtype_stop (wpAny_pure q))
/-- x1 is still there when other objects move -/
theorem hot_keeps {h h' : Heap} (hot : HotAt A x1 h) (k : ∀ o, h.get? x1 = some o → h'.get? x1 = some o) : HotAt A x1 h' := by
  obtain ⟨hh, o1, vs1, e1, d1, c1⟩ := hot
  exact ⟨hh, o1, vs1, k _ e1, d1, c1⟩
theorem hot_in1 {h : Heap} (hot : HotAt A x1 h) : HotAt A.in1 x1 h := hot
theorem isStop {e : Addr} {h : Heap} {o : Obj} (he : h.get? e = some o) (c : o.cls = .type "StopIteration") : ∃ o, h.get? e = some o ∧ o.cls = .type "StopIteration" := ⟨o, he, c⟩
/-- what an iterator's end leaves: a StopIteration, else only the iterator has moved -/
abbrev Stopped (E : Value → Shared → Prop) (s : Shared) (it : Addr) : Prop := ∀ (h' : Heap) (e : Addr), Heap.ExtBut it s.heap h' → (∃ o, h'.get? e = some o ∧ o.cls = .type "StopIteration") → E (.ref e) { s with heap := h' }
theorem list_stop {it l : Addr} {i : Nat} {items : Array Value} {Q : Option Value → Shared → Prop} (hot : HotAt A x1 s.heap) (hit : s.heap.IsListIter it l i) (hl : s.heap.IsList l items) (hx : items[i]? = none) (hne : x1 ≠ it)
    (k : Stopped E s it) : wpAny (model prog w) A (callSpecial? (.ref it) "__next__") Q E s := by
  obtain ⟨⟨o, ho, hc, hd⟩, ol, hol, _, nl, hdl⟩ := And.intro hit hl
  refine wpAny_callSpecial?_slot (name := Str.ofString "__next__") hit.typeIs slot_listiter_next (wpAny_call_entry slot_listiter_next hit.typeIs entry_listiter_next ?_ (args_listiter_next _))
  show wpAny _ _ (field (.ref it) 0 >>= _) _ _ s
  refine wpAny_bind (wpAny_field ho hd (x := .ref l) rfl (wpAny_bind (wpAny_field ho hd (x := .int i 0) rfl (wpAny_bind (wpAny_seqItems hol hdl ?_)))))
  simp only [Int.toNat_natCast, hx]
  refine wpAny_bind (wpAny_rule (wpAny_bind (wpAny_setField ho hd (by simp) (stop_hot (x1 := x1) (hot_keeps hot fun u e => (Heap.get?_update_other _ _ hne.symm).trans e) fun h' e oe k' he hc' => k h' e (fun b u hb eb => k' b u ?_) (isStop he hc')))))
  exact (Heap.get?_update_other _ _ (Ne.symm hb)).trans eb
theorem tuple_stop {it l : Addr} {i : Nat} {items : Array Value} {Q : Option Value → Shared → Prop} (hot : HotAt A x1 s.heap) (hit : s.heap.IsTupleIter it l i) (hl : s.heap.IsTuple l items) (hx : items[i]? = none) (hne : x1 ≠ it)
    (k : Stopped E s it) : wpAny (model prog w) A (callSpecial? (.ref it) "__next__") Q E s := by
  obtain ⟨⟨o, ho, hc, hd⟩, ol, hol, _, nl, hdl⟩ := And.intro hit hl
  refine wpAny_callSpecial?_slot (name := Str.ofString "__next__") hit.typeIs F.slot_tuple_iterator_next (wpAny_call_entry F.slot_tuple_iterator_next hit.typeIs F.entry_tuple_iterator_next ?_ (F.args_tuple_iterator_next_1 _))
  show wpAny _ _ (field (.ref it) 0 >>= _) _ _ s
  refine wpAny_bind (wpAny_field ho hd (x := .ref l) rfl (wpAny_bind (wpAny_field ho hd (x := .int i 0) rfl (wpAny_bind (wpAny_seqItems hol hdl ?_)))))
  simp only [Int.toNat_natCast, hx]
  refine wpAny_bind (wpAny_rule (wpAny_bind (wpAny_setField ho hd (by simp) (stop_hot (x1 := x1) (hot_keeps hot fun u e => (Heap.get?_update_other _ _ hne.symm).trans e) fun h' e oe k' he hc' => k h' e (fun b u hb eb => k' b u ?_) (isStop he hc')))))
  exact (Heap.get?_update_other _ _ (Ne.symm hb)).trans eb
/-- pyNext at an end -/
theorem next_stop {it : Addr} {Q : Option Value → Shared → Prop} {h : Heap → Prop}
    (st : wpAny (model prog w) A (callSpecial? (.ref it) "__next__") (fun _ _ => False) (fun e s' => ∃ (a : Addr) (h' : Heap), e = .ref a ∧ s' = { s with heap := h' } ∧ h h' ∧ ∃ o, h'.get? a = some o ∧ o.cls = .type "StopIteration") s)
    (k : ∀ h', h h' → Q none { s with heap := h' }) : wpAny (model prog w) A (pyNext (.ref it)) Q E s := by
  unfold pyNext
  refine wpAny_bind (wpAny_attempt (wpAny_mono st (fun _ _ z => z.elim) fun e s' z => ?_))
  obtain ⟨a, h', rfl, rfl, q, o, ho, hc⟩ := z
  exact stop_caught ho hc (k h' q)
theorem next_list_stop {it l : Addr} {i : Nat} {items : Array Value} {Q : Option Value → Shared → Prop} (hot : HotAt A x1 s.heap) (hit : s.heap.IsListIter it l i) (hl : s.heap.IsList l items) (hx : items[i]? = none) (hne : x1 ≠ it)
    (k : ∀ h', Heap.ExtBut it s.heap h' → Q none { s with heap := h' }) : wpAny (model prog w) A (pyNext (.ref it)) Q E s :=
  next_stop (list_stop hot hit hl hx hne fun h' e k' he => ⟨e, h', rfl, rfl, k', he⟩) k
theorem next_tuple_stop {it l : Addr} {i : Nat} {items : Array Value} {Q : Option Value → Shared → Prop} (hot : HotAt A x1 s.heap) (hit : s.heap.IsTupleIter it l i) (hl : s.heap.IsTuple l items) (hx : items[i]? = none) (hne : x1 ≠ it)
    (k : ∀ h', Heap.ExtBut it s.heap h' → Q none { s with heap := h' }) : wpAny (model prog w) A (pyNext (.ref it)) Q E s :=
  next_stop (tuple_stop hot hit hl hx hne fun h' e k' he => ⟨e, h', rfl, rfl, k', he⟩) k
theorem next_rev_stop {it l : Addr} {Q : Option Value → Shared → Prop} (hot : HotAt A x1 s.heap) (hit : s.heap.IsRevIter it l (-1)) (k : ∀ h', Heap.ExtBut it s.heap h' → Q none { s with heap := h' }) : wpAny (model prog w) A (pyNext (.ref it)) Q E s := by
  refine next_stop (h := Heap.ExtBut it s.heap) ?_ k
  obtain ⟨o, ho, hc, hd⟩ := id hit
  refine wpAny_callSpecial?_slot (name := Str.ofString "__next__") hit.typeIs F.slot_lri_next (wpAny_call_entry F.slot_lri_next hit.typeIs F.entry_lri_next ?_ (F.args_lri_next_1 _))
  unfold Builtin.«list_reverseiterator.__next__»
  refine wpAny_bind (wpAny_of_eq (a := (Value.ref it, [])) rfl (wpAny_bind (wpAny_field ho hd (x := rawInt (-1)) rfl ?_)))
  show wpAny _ _ (if (-1 : Int) < 0 then _ else _) _ _ s
  rw [if_pos (by decide)]
  exact wpAny_bind (wpAny_rule (wpAny_bind (stop_hot (x1 := x1) hot fun h' e oe k' he hc' => ⟨e, h', rfl, rfl, fun b u _ eb => k' b u eb, isStop he hc'⟩)))
theorem next_enum_stop {e it l : Addr} {i : Nat} {items : Array Value} {old : Value} {Q : Option Value → Shared → Prop} (hot : HotAt A x1 s.heap) (he : IsEnum s.heap e it i old) (hit : s.heap.IsListIter it l i) (hl : s.heap.IsList l items) (hx : items[i]? = none) (hne : x1 ≠ it)
    (k : ∀ h', Heap.ExtBut it s.heap h' → Q none { s with heap := h' }) : wpAny (model prog w) A (pyNext (.ref e)) Q E s := by
  refine next_stop (h := Heap.ExtBut it s.heap) ?_ k
  have hT : s.TypeIs (.ref e) "enumerate" := ⟨_, he, rfl⟩
  refine wpAny_callSpecial?_slot (name := Str.ofString "__next__") hT F.slot_enumerate_next (wpAny_call_entry F.slot_enumerate_next hT F.entry_enumerate_next ?_ (F.args_enumerate_next_1 _))
  show wpAny _ _ (field (.ref e) 2 >>= _) _ _ _
  refine wpAny_bind (wpAny_field he rfl (x := .ref it) rfl (wpAny_bind ?_))
  unfold Builtin.SmallTypes.nextOf
  exact wpAny_bind (list_stop hot hit hl hx hne fun h' a k' ha => ⟨a, h', rfl, rfl, k', ha⟩)
theorem next_key_stop {it d : Addr} {i n ep : Nat} {od : Obj} {es : Array DictEntry} {Q : Option Value → Shared → Prop} (hot : HotAt A x1 s.heap) (hit : s.heap.IsKeyIter it d i n ep) (hod : s.heap.get? d = some od) (hdd : od.data = .dict es ep) (hsz : es.size = n) (hge : n ≤ i) (hne : x1 ≠ it)
    (k : ∀ h', Heap.ExtBut it s.heap h' → Q none { s with heap := h' }) : wpAny (model prog w) A (pyNext (.ref it)) Q E s := by
  refine next_stop (h := Heap.ExtBut it s.heap) ?_ k
  obtain ⟨o, ho, hc, hd⟩ := id hit
  refine wpAny_callSpecial?_slot (name := Str.ofString "__next__") hit.typeIs F.slot_dict_keyiterator_next (wpAny_call_entry F.slot_dict_keyiterator_next hit.typeIs F.entry_dict_keyiterator_next ?_ (F.args_dict_keyiterator_next_1 _))
  have own : Builtin.Dict_items.ownsTuple "dict_keyiterator" = false := by decide
  subst hsz
  refine wpAny_bind (wpAny_pure (wpAny_bind (wpAny_bind (wpAny_bind ?_))))
  first
  | refine wpAny_typeNameOfWhole_keyiter hit.typeIs (wpAny_pure (wpAny_bind (wpAny_fieldsOf ho hd ?_)))
  | refine wpAny_typeNameOf_keyiter hit.typeIs (wpAny_pure (wpAny_bind (wpAny_fieldsOf ho hd ?_)))
  simp only [own, Bool.false_eq_true, if_false]
  show wpAny _ _ (if (Value.ref d == Value.none) = true then _ else _) _ _ s
  rw [if_neg (by simp)]
  refine wpAny_bind (wpAny_pure (wpAny_bind (wpAny_dictEntries hod hdd ?_)))
  rw [if_neg (by simp)]
  refine wpAny_bind (wpAny_pure (wpAny_bind (wpAny_dictEpoch hod hdd ?_)))
  rw [if_neg (by simp)]
  refine wpAny_pure ?_
  have neg : ¬ ((i : Int) < 0) := by omega
  simp only [neg, if_false, Int.toNat_natCast, Array.getElem?_eq_none hge]
  refine wpAny_bind (wpAny_bind ?_)
  have last : wpAny (model prog w) A.in1 (do setField (.ref it) 0 .none; raiseNew (← newExc (.type "StopIteration") []) : Sem PySem.Fin) (fun fin s' => ∃ v, fin = .done (.ret v) ∧ False)
      (fun e s' => ∃ a h', e = .ref a ∧ s' = { s with heap := h' } ∧ Heap.ExtBut it s.heap h' ∧ ∃ o, h'.get? a = some o ∧ o.cls = .type "StopIteration") s := by
    refine wpAny_bind (wpAny_setField ho hd (by simp) (stop_hot (x1 := x1) (hot_keeps hot fun u e => (Heap.get?_update_other _ _ hne.symm).trans e) fun h' e oe k' he hc' => ⟨e, h', rfl, rfl, fun b u hb eb => k' b u ?_, isStop he hc'⟩))
    exact (Heap.get?_update_other _ _ (Ne.symm hb)).trans eb
  first
  | exact wpAny_typeNameOfWhole_keyiter hit.typeIs (wpAny_pure last)
  | exact wpAny_typeNameOf_keyiter hit.typeIs (wpAny_pure last)
end
end J

set_option Elab.async false
set_option linter.all false
set_option maxRecDepth 100000
set_option maxHeartbeats 4000000
/-! turns of iterators while an exception is handled -/
namespace J
open PySem PySem.Spec PyProof.Rows L2 L2H HotX
section
variable {X : Cx} {pins : List (Addr × Obj)} {σ : L2.St} {H : Hp} {s : Shared}
theorem turned1 {it : Addr} {h' : Heap} {t' : Nat} (I : Inv X pins σ H s) (f : FpOk X pins H it) (k : ∀ b o, b ≠ it → s.heap.get? b = some o → h'.get? b = some o) : Inv X pins σ H { s with heap := h', toks := t' } :=
  I.turned k f.1 f.2.1 f.2.2.2.1 f.2.2.2.2.1 f.2.2.2.2.2
/-- the exception that is handled stands apart from what is walked -/
theorem hot_at (c : HotC X) (I : Inv X pins σ H s) : ∃ x1, HotAt X.A x1 s.heap ∧ ∀ b, FpOk X pins H b → x1 ≠ b := by
  obtain ⟨p, ⟨hh, v1, e1, c1⟩, hp⟩ := c
  exact ⟨p.1, ⟨hh, p.2, v1, (I.pin p (List.mem_append_left _ hp)).1, e1, c1⟩, fun b f => f.2.2.2.2.2 p (List.mem_append_left _ hp)⟩
end
section
variable {P : Program} {w : World} {K : PySem.W.Frag} {tg : Expr}
theorem hturn_list (a it : Addr) : TurnH P w K tg (Itl K a) [it] it (fun i h => h.IsListIter it a i) where
  mem := (turn_list (P := P) (w := w) (K := K) (tg := tg) a it).mem
  obj := (turn_list (P := P) (w := w) (K := K) (tg := tg) a it).obj
  keep := (turn_list (P := P) (w := w) (K := K) (tg := tg) a it).keep
  self := (turn_list (P := P) (w := w) (K := K) (tg := tg) a it).self
  item := by
    rintro X rfl rfl rfl hc i pins s σ H E I hf st ⟨xs, x, hq, hx⟩
    obtain ⟨its, rv, p, _⟩ := I.list hq
    obtain ⟨u, hu, ru⟩ := rv.get hx
    have f := hf it List.mem_cons_self
    refine wpAny_pyNext_list_item st p.isList (x := u) (by simpa using hu) fun h' st' sb => ⟨u, rfl, ?_⟩
    obtain ⟨o, e, c, d⟩ := id st'
    refine go_of (s := { s with heap := h' }) e c d (by decide) ⟨x, H, turned1 (t' := s.toks) I f fun b o hb e => (sb.2 b hb).trans e, ru, ⟨rfl, fun ys hy => ?_⟩, st', fun b hb => (hf b hb).1⟩
    rw [I.list_inj hy hq]; exact hx
  done := by
    rintro X rfl rfl rfl hc i pins s σ H E I hf st ⟨xs, hq, hx⟩
    obtain ⟨its, rv, p, _⟩ := I.list hq
    have f := hf it List.mem_cons_self
    have hl := rv.length
    obtain ⟨x1, hot, ap⟩ := hot_at hc I
    exact next_list_stop hot st p.isList (by simp; omega) (ap _ f) fun h' eb => ⟨rfl, turned1 (t' := s.toks) I f eb⟩
theorem hturn_tuple (a it : Addr) : TurnH P w K tg (Itt K a) [it] it (fun i h => h.IsTupleIter it a i) where
  mem := (turn_tuple (P := P) (w := w) (K := K) (tg := tg) a it).mem
  obj := (turn_tuple (P := P) (w := w) (K := K) (tg := tg) a it).obj
  keep := (turn_tuple (P := P) (w := w) (K := K) (tg := tg) a it).keep
  self := (turn_tuple (P := P) (w := w) (K := K) (tg := tg) a it).self
  item := by
    rintro X rfl rfl rfl hc i pins s σ H E I hf st ⟨xs, x, hq, hx⟩
    obtain ⟨its, rv, p, _⟩ := I.tuple hq
    obtain ⟨u, hu, ru⟩ := rv.get hx
    have f := hf it List.mem_cons_self
    have p' : s.heap.IsTuple a its.toArray := p
    refine wpAny_pyNext_tuple_item st p' (x := u) (by simpa using hu) fun h' st' sb => ⟨u, rfl, ?_⟩
    obtain ⟨o, e, c, d⟩ := id st'
    refine go_of (s := { s with heap := h' }) e c d (by decide) ⟨x, H, turned1 (t' := s.toks) I f fun b o hb e => (sb.2 b hb).trans e, ru, ⟨rfl, fun ys hy => ?_⟩, st', fun b hb => (hf b hb).1⟩
    rw [I.tuple_inj hy hq]; exact hx
  done := by
    rintro X rfl rfl rfl hc i pins s σ H E I hf st ⟨xs, hq, hx⟩
    obtain ⟨its, rv, p, _⟩ := I.tuple hq
    have f := hf it List.mem_cons_self
    have p' : s.heap.IsTuple a its.toArray := p
    have hl := rv.length
    obtain ⟨x1, hot, ap⟩ := hot_at hc I
    exact next_tuple_stop hot st p' (by simp; omega) (ap _ f) fun h' eb => ⟨rfl, turned1 (t' := s.toks) I f eb⟩
theorem hturn_rev (a it : Addr) (n : Nat) : TurnH P w K tg (Itv K a n) [it] it (fun i h => i ≤ n ∧ h.IsRevIter it a ((n : Int) - 1 - (i : Nat))) where
  mem := (turn_rev (P := P) (w := w) (K := K) (tg := tg) a it n).mem
  obj := (turn_rev (P := P) (w := w) (K := K) (tg := tg) a it n).obj
  keep := (turn_rev (P := P) (w := w) (K := K) (tg := tg) a it n).keep
  self := (turn_rev (P := P) (w := w) (K := K) (tg := tg) a it n).self
  item := by
    rintro X rfl rfl rfl hc i pins s σ H E I hf ⟨_, hit⟩ ⟨hin, xs, x, hq, hx⟩
    obtain ⟨its, rv, p, _⟩ := I.list hq
    obtain ⟨u, hu, ru⟩ := rv.get hx
    have f := hf it List.mem_cons_self
    have e1 : (n : Int) - 1 - ((i : Nat) : Int) = ((n - 1 - i : Nat) : Int) := by omega
    have e2 : ((n - 1 - i : Nat) : Int) - 1 = (n : Int) - 1 - ((i + 1 : Nat) : Int) := by omega
    rw [e1] at hit
    refine wpAny_pyNext_rev_item hit p.isList (x := u) (by simpa using hu) fun h' st' sb => ⟨u, rfl, ?_⟩
    rw [e2] at st'
    obtain ⟨o, e, c, d⟩ := id st'
    refine go_of (s := { s with heap := h' }) e c d (by decide) ⟨x, H, turned1 (t' := s.toks) I f fun b o hb e => (sb.2 b hb).trans e, ru, ⟨rfl, fun ys hy => ?_⟩, ⟨hin, st'⟩, fun b hb => (hf b hb).1⟩
    rw [I.list_inj hy hq]; exact hx
  done := by
    rintro X rfl rfl rfl hc i pins s σ H E I hf ⟨hin, hit⟩ hg
    have f := hf it List.mem_cons_self
    have hge : n ≤ i := hg
    have e1 : (n : Int) - 1 - ((i : Nat) : Int) = -1 := by omega
    rw [e1] at hit
    obtain ⟨x1, hot, ap⟩ := hot_at hc I
    exact next_rev_stop hot hit fun h' eb => ⟨rfl, turned1 (t' := s.toks) I f eb⟩
theorem hturn_rangeC (it : Addr) (lo c : Int) (n : Nat) : TurnH P w K tg (Itc lo c n) [it] it (fun i h => IsRangeIter h it (lo + (i : Nat) * c) ((n : Int) - (i : Nat)) c) where
  mem := (turn_rangeC (P := P) (w := w) (K := K) (tg := tg) it lo c n).mem
  obj := (turn_rangeC (P := P) (w := w) (K := K) (tg := tg) it lo c n).obj
  keep := (turn_rangeC (P := P) (w := w) (K := K) (tg := tg) it lo c n).keep
  self := (turn_rangeC (P := P) (w := w) (K := K) (tg := tg) it lo c n).self
  item := by
    rintro X rfl rfl rfl hc i pins s σ H E I hf st hg
    have f := hf it List.mem_cons_self
    have hlt : i < n := hg
    refine wpAny_pyNext_range_item st (by omega) fun h' st' sb => ⟨_, rfl, ?_⟩
    have e1 : lo + ((i : Nat) : Int) * c + c = lo + ((i + 1 : Nat) : Int) * c := by push_cast; rw [Int.add_mul, Int.one_mul]; omega
    have e2 : (n : Int) - ((i : Nat) : Int) - 1 = (n : Int) - ((i + 1 : Nat) : Int) := by omega
    rw [e1, e2] at st'
    exact go_of (s := { s with heap := h', toks := s.toks + 1 }) (n := "range_iterator") st' rfl rfl (by decide) ⟨.int (lo + (i : Nat) * c), H, turned1 I f fun b o hb e => (sb.2 b hb).trans e, ⟨s.toks, rfl⟩, ⟨rfl, rfl⟩, st', fun b hb => (hf b hb).1⟩
  done := by
    rintro X rfl rfl rfl hc i pins s σ H E I hf st hg
    have f := hf it List.mem_cons_self
    obtain ⟨x1, hot, ap⟩ := hot_at hc I
    exact pyNext_range_end_hot hot st (by have : n ≤ i := hg; omega) fun h' eb => ⟨rfl, turned1 (t' := s.toks) I f fun b o _ e => eb b o e⟩
theorem hturn_keys {d : Addr} {o : Obj} {es : Array DictEntry} {ep : Nat} {kvs : List (Key × V)} (it : Addr) (hod : o.data = .dict es ep) : TurnH P w K tg (Itk d o kvs) [it] it (fun i h => h.IsKeyIter it d i kvs.length ep) where
  mem := (turn_keys (P := P) (w := w) (K := K) (tg := tg) (d := d) (kvs := kvs) it hod).mem
  obj := (turn_keys (P := P) (w := w) (K := K) (tg := tg) (kvs := kvs) (d := d) it hod).obj
  keep := (turn_keys (P := P) (w := w) (K := K) (tg := tg) (kvs := kvs) (d := d) it hod).keep
  self := (turn_keys (P := P) (w := w) (K := K) (tg := tg) (kvs := kvs) (d := d) it hod).self
  item := by
    rintro X rfl rfl rfl hc i pins s σ H E I hf st ⟨hd, hi⟩
    have f := hf it List.mem_cons_self
    obtain ⟨hs, hgd, hx, es', ep', vs, hdt, hsz, kv, hm⟩ := I.frzK hd
    obtain ⟨rfl, rfl⟩ := dict_ep hod hdt
    obtain ⟨k, v⟩ : Key × V := kvs[i]
    have hkv : kvs[i]? = some kvs[i] := List.getElem?_eq_getElem hi
    obtain ⟨u, hu, ru⟩ := kv_get kv hkv
    have hl : kvs.length = vs.length := Paired.length kv
    rw [hl] at st
    refine wpAny_pyNext_dict_item st hm hu fun key h' hkey st' sb => ⟨key, rfl, ?_⟩
    obtain ⟨oi, e, c, dd⟩ := id st'
    refine go_of (s := { s with heap := h' }) e c dd (by decide) ⟨kV kvs[i].1, H, turned1 (t' := s.toks) I f fun b ob hb e => (sb.2 b hb).trans e, relV_key (show keyIs kvs[i].1 key = true from hkey), ⟨rfl, _, _, hkv, rfl⟩, ?_, fun b hb => (hf b hb).1⟩
    rw [hl]; exact st'
  done := by
    rintro X rfl rfl rfl hc i pins s σ H E I hf st ⟨hd, hi⟩
    have f := hf it List.mem_cons_self
    obtain ⟨hs, hgd, hx, es', ep', vs, hdt, hsz, kv, hm⟩ := I.frzK hd
    obtain ⟨rfl, rfl⟩ := dict_ep hod hdt
    obtain ⟨x1, hot, ap⟩ := hot_at hc I
    exact next_key_stop hot st hgd hdt hsz hi (ap _ f) fun h' eb => ⟨rfl, turned1 (t' := s.toks) I f eb⟩
theorem hturn_enum {elts : List Expr} {kk : Nat} {tpos : Pos} (a e it : Addr) :
    TurnH P w K (.Tuple elts kk tpos) (Ite K a) [e, it] e (fun i h => (∃ old, IsEnum h e it ((i : Nat) : Int) old) ∧ h.IsListIter it a i ∧ e ≠ it) where
  mem := (turn_enum (P := P) (w := w) (K := K) (elts := elts) (kk := kk) (tpos := tpos) a e it).mem
  obj := (turn_enum (P := P) (w := w) (K := K) (elts := elts) (kk := kk) (tpos := tpos) a e it).obj
  keep := (turn_enum (P := P) (w := w) (K := K) (elts := elts) (kk := kk) (tpos := tpos) a e it).keep
  self := (turn_enum (P := P) (w := w) (K := K) (elts := elts) (kk := kk) (tpos := tpos) a e it).self
  item := by
    rintro X rfl rfl rfl hc i pins s σ H E I hf ⟨⟨old, he⟩, hit, hne⟩ ⟨xs, x, hq, hx⟩
    obtain ⟨its, rv, p, _⟩ := I.list hq
    obtain ⟨u, hu, ru⟩ := rv.get hx
    have hel : e < s.heap.objs.size := Heap.lt_size he
    have hil : it < s.heap.objs.size := Heap.lt_size hit.choose_spec.1
    have lt : ∀ b ∈ [e, it], b < s.heap.objs.size := fun b hb => by
      rcases List.mem_cons.mp hb with rfl | hb
      · exact hel
      · rw [List.mem_singleton.mp hb]; exact hil
    refine wpAny_pyNext_enum_item he hit p.isList (x := u) (by simpa using hu) hne fun h' ho hit' hT hsz hk => ⟨_, rfl, wpAny_letOwnedTupleGo_enum (s := { s with heap := h', toks := s.toks + 1 }) ho fun h'' he' sb => ?_⟩
    have hT2 := (sb.2 _ (Nat.ne_of_gt hel)).trans hT
    have new : ObjOk X.prog X.w (upd H s.heap.objs.size (.tup [.int (i : Nat), x])) h'' s.heap.objs.size (.tup [.int (i : Nat), x]) :=
      ⟨(by decide : 2 ≤ sizeLine), [.int i s.toks, u], .cons ⟨_, rfl⟩ (.cons ru .nil), ⟨_, hT2, rfl, _, rfl⟩⟩
    have I1 := I.turnedNew (t' := s.toks + 1) (ch := [e, it]) (fun b ob hb q => (sb.2 b (fun z => hb (z ▸ List.mem_cons_self))).trans (hk b ob (fun z => hb (z ▸ List.mem_cons_self)) (fun z => hb (z ▸ List.mem_cons_of_mem _ List.mem_cons_self)) q)) hf (Nat.le_refl _) new
    refine ⟨.ref s.heap.objs.size, _, I1, rfl, ⟨_, x, rfl, I.hok.fresh (Nat.le_refl _), rfl, fun ys hy => ?_⟩, ⟨⟨u, ?_⟩, hit'.at fun o q => (sb.2 it (Ne.symm hne)).trans q, hne⟩, fun b hb => ?_⟩
    · rw [I.list_inj hy hq]; exact hx
    · rw [show ((i + 1 : Nat) : Int) = (i : Int) + 1 from by omega]; exact he'
    · rw [upd_ne (Nat.ne_of_lt (lt b hb))]
      exact (hf b hb).1
  done := by
    rintro X rfl rfl rfl hc i pins s σ H E I hf ⟨⟨old, he⟩, hit, hne⟩ ⟨xs, hq, hx⟩
    obtain ⟨its, rv, p, _⟩ := I.list hq
    have f := hf it (List.mem_cons_of_mem _ List.mem_cons_self)
    have hl := rv.length
    obtain ⟨x1, hot, ap⟩ := hot_at hc I
    exact next_enum_stop hot he hit p.isList (by simp; omega) (ap _ f) fun h' eb => ⟨rfl, turned1 (t' := s.toks) I f eb⟩
end
end J

set_option Elab.async false
set_option linter.all false
set_option maxRecDepth 100000
set_option maxHeartbeats 4000000
/-! comprehensions while an exception is handled -/
namespace J
open PySem PySem.Spec PyProof.Rows L2 L2H HotX
/-- a block's context that bears the pins pn -/
abbrev blkP (X : Cx) (pn : List (Addr × Obj)) (s : Shared) (H : Hp) (scope : Scope) (cenv : Env) (fp : List Addr) : Cx := { X.blk s H scope cenv fp with pn := pn }
abbrev newC (X : Cx) (scope : Scope) (C : Addr) : Env := compEnvC scope (cellsFrom (C + 1) scope.names (cloFrom X.env.cells scope.names [])) C X.env
theorem blkP_ok {X : Cx} {pn : List (Addr × Obj)} {s : Shared} {H : Hp} {scope : Scope} {cenv : Env} {fp : List Addr} (o : (X.blk s H scope cenv fp).Ok) : (blkP X pn s H scope cenv fp).Ok :=
  ⟨o.mod, o.kind, o.glob, o.blt, o.above, o.inj, o.has, o.cab, o.hd, o.frames, o.stk, o.exf, o.bs, o.bsz, o.noex, o.exfs, o.funs, o.frf⟩
section
variable {X : Cx} {pins : List (Addr × Obj)} {σ : L2.St} {H : Hp} {s : Shared}
theorem startP {scope : Scope} {own : List (Str × Nat)} {fp : List Addr} (I : Inv X pins σ H s) (ok : BlkOk X.N X.env.scope scope own) (hN : X.N.Nodup) (hfp : ∀ b ∈ fp, FpOk X pins H b ∧ b < s.heap.objs.size) :
    Inv (blkP X X.pn s H scope (newC X scope s.heap.objs.size) fp) [] (wipe σ (own.map (·.2))) H { s with heap := pushCells (s.heap.push { cls := .type "dict", data := .dict #[] }) scope.names } := by
  have B := block_start I ok hN hfp
  refine ⟨blkP_ok B.ok, B.os, B.bare, B.base, B.loc, B.cell, B.free, B.freeC, fun p hp => ?_, B.hok, B.len⟩
  have hp' : p ∈ X.pn := by
    rcases List.mem_append.mp (show p ∈ X.pn ++ ([] : List (Addr × Obj)) from hp) with z | z
    · exact z
    · cases z
  obtain ⟨e, n, ne, nf, d⟩ := I.pin p (List.mem_append_left _ hp')
  have hl := Heap.lt_size e
  refine ⟨pushCells_keeps _ _ _ _ (Heap.get?_push_of_some _ e), n, Nat.ne_of_lt hl, fun z => ?_, d⟩
  rcases List.mem_cons.mp (I.stkSub p.1 z) with y | y
  · exact ne y
  · exact nf y
end
section
variable {X : Cx}
theorem lc_hot {pins : List (Addr × Obj)} {s : Shared} {σ : L2.St} {H : Hp} {Q : VK} {elt tg iter : Expr} {ifs : List Expr} {scope : Scope} {own : List (Str × Nat)} {pos pos' : Pos} {wi : TI} {g : TG} {tt : TT} {te : TE} {use : Option (Value → Sem Unit)} {Qf : Value → Shared → Prop}
    (hc : HotC X) (hN : X.N.Nodup) (I : Inv X pins σ H s) (hi : PIH X tg iter wi) (ok : BlkOk X.N X.env.scope scope own)
    (hg : ∀ s H C cl fp, PG (blkP X X.pn s H scope (compEnvC scope cl C X.env) fp) tg g) (ht : ∀ s H C cl fp, PTs (blkP X X.pn s H scope (compEnvC scope cl C X.env) fp) ifs tt)
    (he : ∀ s H C cl fp, PE (blkP X X.pn s H scope (compEnvC scope cl C X.env) fp) elt te) (hs : ∀ x, foldedSetIterable iter X.env x = pure x) (h : tLc wi g tt te (own.map (·.2)) σ H Q)
    (back : ∀ D C s' m H', Inv X pins σ H' s' → Q (.ref D) H' → s'.heap.Ns C m → FpOk X pins H' C → compPost (model X.prog X.w) X.A X.xe use Qf (.ref D) C (.ok .next) s') :
    wpAny (model X.prog X.w) X.A (comprehension (.ListComp elt [⟨tg, iter, ifs, 0⟩] scope pos) scope X.env pos' (newList []) false (eval iter X.env) use) Qf X.xe s := by
  have caught : ∀ y ∈ scope.names, y.2 = .free → ∃ c, X.env.cells.lookup y.1 = some c := fun y hy e => (ok.free y hy e).elim (fun k => I.ok.has _ (.inl k)) (fun k => I.ok.has _ (.inr k))
  refine wpAny_comprehension_free (use := use) rfl hs (closure_ok caught) ok.kind (fun y hy e => e ▸ ok.uniq y hy) (thn (hi.run pins s σ H _ I h) fun xv s1 hx => thn hx fun itv s2 h2 => wpAny_newObj_type (newEnv_comp ?_) (Nat.zero_le _))
  obtain ⟨it, fp, tn, J, H2, rfl, I2, T, st2, f2, q⟩ := h2
  -- the new list stands at D
  obtain ⟨D, hD⟩ : ∃ D, D = s2.heap.objs.size := ⟨_, rfl⟩
  have D0 : H2 D = none := I2.hok.fresh (Nat.le_of_eq hD.symm)
  obtain ⟨W, ⟨m0, w0⟩, turn⟩ := q D D0
  obtain ⟨s3, hs3⟩ : ∃ s3 : Shared, s3 = { s2 with heap := s2.heap.push { cls := .type "list", data := .seq ([] : List Value).toArray } } := ⟨_, rfl⟩
  obtain ⟨H3, hH3⟩ : ∃ H3, H3 = upd H2 D (.lst []) := ⟨_, rfl⟩
  have up3 : ∀ b o, s2.heap.get? b = some o → s3.heap.get? b = some o := fun b o e => by rw [hs3]; exact Heap.get?_push_of_some _ e
  have sz3 : s3.heap.objs.size = s2.heap.objs.size + 1 := by rw [hs3]; exact Heap.size_push ..
  have I3 : Inv X pins σ H3 s3 := by
    have new : ObjOk X.prog X.w (upd H2 D (.lst [])) (s2.heap.push { cls := .type "list", data := .seq ([] : List Value).toArray }) D (.lst []) :=
      ⟨Nat.zero_le _, [], 0, .nil, by rw [hD]; exact Heap.get?_push_size _ rfl⟩
    rw [hH3, hs3]
    exact I2.laid (t' := s2.toks) (fun b o e => Heap.get?_push_of_some _ e) (Nat.le_of_eq hD.symm) new
  have old : ∀ b ∈ fp, b < s2.heap.objs.size := fun b hb => Heap.lt_size (T.obj _ _ st2 b hb).choose_spec.1
  have f3 : ∀ b ∈ fp, FpOk X pins H3 b ∧ b < s3.heap.objs.size := fun b hb => by
    have lt := old b hb
    refine ⟨⟨?_, (f2 b hb).2⟩, by rw [sz3]; exact Nat.lt_succ_of_lt lt⟩
    rw [hH3, upd_ne (by rw [hD]; exact Nat.ne_of_lt lt)]
    exact (f2 b hb).1
  rw [← hs3, ← hD]
  have I4 := startP I3 ok hN f3
  have st4 : tn 0 (pushCells (s3.heap.push { cls := .type "dict", data := .dict #[] }) scope.names) := T.keep _ _ _ st2 fun b _ o e => pushCells_keeps _ _ _ _ (Heap.get?_push_of_some _ (up3 _ _ e))
  obtain ⟨ce, hce⟩ : ∃ ce, ce = newC X scope s3.heap.objs.size := ⟨_, rfl⟩
  have pg : PG (blkP X X.pn s3 H3 scope ce fp) tg g := by rw [hce]; exact hg ..
  have pt : PTs (blkP X X.pn s3 H3 scope ce fp) ifs tt := by rw [hce]; exact ht ..
  have pe : PE (blkP X X.pn s3 H3 scope ce fp) elt te := by rw [hce]; exact he ..
  rw [← hce] at I4
  rw [← hH3] at w0
  have cL : ce.locals = s3.heap.objs.size := by rw [hce]; rfl
  have hcX : HotC (blkP X X.pn s3 H3 scope ce fp) := hc
  have stat : ∀ {σ' : L2.St} {H' : Hp} {s' : Shared}, Inv (blkP X X.pn s3 H3 scope ce fp) [] σ' H' s' → (∀ b ∈ fp, H' b = none) → ∀ b ∈ fp, FpOk (blkP X X.pn s3 H3 scope ce fp) [] H' b := fun {σ' H' s'} I' hn b hb =>
    ⟨hn b hb, (I'.ok.exf b hb).1, I'.ok.exfs b hb, .inl hb, fun x c e => (I'.ok.exf b hb).2 x c e, fun p hp => by
      rcases List.mem_append.mp (show p ∈ X.pn ++ ([] : List (Addr × Obj)) from hp) with z | z
      · exact (f3 b hb).1.2.2.2.2.2 p (List.mem_append_left _ z)
      · cases z⟩
  have loop : codeAny (model X.prog X.w) X.A (.compLoop (.ListComp elt [⟨tg, iter, ifs, 0⟩] scope pos) 0 (.ref it) (.ref D) ce) (compPost (model X.prog X.w) X.A X.xe use Qf (.ref D) s3.heap.objs.size) { s3 with heap := pushCells (s3.heap.push { cls := .type "dict", data := .dict #[] }) scope.names } := by
    refine compLoop_any (fun n s' => ∃ i H', Inv (blkP X X.pn s3 H3 scope ce fp) [] (wipe σ (own.map (·.2))) H' s' ∧ tn i s'.heap ∧ (∀ b ∈ fp, H' b = none) ∧ W i n H') ?_ m0 ⟨0, H3, I4, st4, fun b hb => (f3 b hb).1.1, w0⟩
    rintro n s5 ⟨i, H5, I5, st5, n5, w5⟩
    rcases turn i n H5 w5 with ⟨stop, qq⟩ | ⟨go, Nx, hNx, step⟩
    · refine thnF (T.done (blkP X X.pn s3 H3 scope ce fp) rfl rfl rfl hcX i [] s5 _ H5 (fun _ _ => False) I5 (stat I5 n5) st5 stop) fun r s6 ⟨hr, I6⟩ => ?_
      subst hr
      have I7 : Inv X pins σ H5 s6 := I3.call' (ch := fp) I6.os I6.base I6.hok I6.bare fun b hb => let f := (f3 b hb).1; ⟨f.2.2.2.1, f.2.1, f.2.2.2.2.1, f.2.2.2.2.2⟩
      have nC : H5 ce.locals = none := I6.free
      obtain ⟨m, hn, _⟩ := I6.loc
      have hn : s6.heap.Ns ce.locals m := hn
      rw [cL] at hn nC
      exact back D _ s6 m H5 I7 qq hn (I3.fpOk (Nat.le_refl _) nC)
    · refine thnF (T.item (blkP X X.pn s3 H3 scope ce fp) rfl rfl rfl hcX i [] s5 _ H5 (fun _ _ => False) I5 (stat I5 n5) st5 go) fun r s6 ⟨u, hr, h6⟩ => ?_
      subst hr
      refine thnF h6 fun _ s7 ⟨x, H7, I7, r7, y7, st7, n7⟩ => thnF (pg.run _ s7 _ H7 x u _ (I7.pinned (stat I7 n7) (T.obj _ _ st7)) r7 (step x H7 y7)) fun _ s8 ⟨σ8, H8, I8, hw8, q8⟩ => thnF (pt.run _ s8 σ8 H8 _ I8 q8) fun b s9 ⟨H9, I9, q9⟩ => ?_
      have fin : ∀ {s' : Shared} {H' : Hp}, Inv (blkP X X.pn s3 H3 scope ce fp) ([] ++ pinsAt fp s7.heap) σ8 H' s' → Nx H' → ∃ m, m < n ∧ ∃ i H', Inv (blkP X X.pn s3 H3 scope ce fp) [] (wipe σ (own.map (·.2))) H' s' ∧ tn i s'.heap ∧ (∀ b ∈ fp, H' b = none) ∧ W i m H' := fun {s' H'} I' nx => by
        obtain ⟨m', hm, w'⟩ := hNx H' nx
        have held : ∀ b ∈ fp, ∀ o, s7.heap.get? b = some o → s'.heap.get? b = some o ∧ H' b = none := fun b hb o e =>
          ⟨(I'.pin (b, o) (List.mem_append_right _ (List.mem_append_right _ (mem_pinsAt hb e)))).1, (I'.pin (b, o) (List.mem_append_right _ (List.mem_append_right _ (mem_pinsAt hb e)))).2.1⟩
        refine ⟨m', hm, i + 1, H', (I'.unpinned (pins := [])).weak (by rw [← hw8, wipe_length]) (fun j v e => (wipe_some (hw8 ▸ e)).1), T.keep _ _ _ st7 fun b hb o e => (held b hb o e).1, fun b hb => ?_, w'⟩
        exact (held b hb _ (T.obj _ _ st7 b hb).choose_spec.1).2
      match b, q9 with
      | false, q9 => exact fin I9 q9
      | true, q9 => exact thnF (pe.run _ s9 σ8 H9 _ I9 q9) fun z s10 ⟨yv, H10, I10, r10, acc, hD10, hz10, nx⟩ => app_ok (X := blkP X X.pn s3 H3 scope ce fp) I10 hD10 hz10 r10 fun s11 I11 => fin I11 nx
  show codeAny _ _ (.compStart (.ListComp elt [⟨tg, iter, ifs, 0⟩] scope pos) 0 (.ref it) (.ref D) (newC X scope s3.heap.objs.size)) (compPost (model X.prog X.w) X.A X.xe use Qf (.ref D) s3.heap.objs.size) _
  rw [← hce]
  exact codeAny_compStart_list loop (T.self X.A 0 _ _ _ st4 loop)
theorem pe_lcHot {elt tg iter : Expr} {ifs : List Expr} {scope : Scope} {own : List (Str × Nat)} {pos : Pos} {wi : TI} {g : TG} {tt : TT} {te : TE} (hc : HotC X) (hN : X.N.Nodup) (hi : PIH X tg iter wi) (ok : BlkOk X.N X.env.scope scope own)
    (hg : ∀ s H C cl fp, PG (blkP X X.pn s H scope (compEnvC scope cl C X.env) fp) tg g) (ht : ∀ s H C cl fp, PTs (blkP X X.pn s H scope (compEnvC scope cl C X.env) fp) ifs tt)
    (he : ∀ s H C cl fp, PE (blkP X X.pn s H scope (compEnvC scope cl C X.env) fp) elt te) (hs : ∀ x, foldedSetIterable iter X.env x = pure x) : PE X (.ListComp elt [⟨tg, iter, ifs, 0⟩] scope pos) (tLc wi g tt te (own.map (·.2))) := by
  refine ⟨fun pins s σ H Q I h => ?_⟩
  rw [eval_ListComp]
  refine lc_hot hc hN I hi ok hg ht he hs h fun D C s' m H' I' q hn f => ⟨m, hn, fun h'' sb => ⟨.ref D, H', turned1 (t' := s'.toks) I' f (fun b o hb e => (sb.2 b hb).trans e), rfl, q⟩⟩
theorem ps_setLcHot {i : Nat} {y : Str} {py : Pos} {elt tg iter : Expr} {ifs : List Expr} {scope : Scope} {own : List (Str × Nat)} {pos spos : Pos} {wi : TI} {g : TG} {tt : TT} {te : TE} (hc : HotC X) (hN : X.N.Nodup) (hy : X.N[i]? = some y) (hyl : X.env.scope.names.lookup y = some .local)
    (hsw : swapsWith (.ListComp elt [⟨tg, iter, ifs, 0⟩] scope pos) (some (.Name y py)) spos.line X.env = pure true) (hi : PIH X tg iter wi) (ok : BlkOk X.N X.env.scope scope own)
    (hg : ∀ s H C cl fp, PG (blkP X X.pn s H scope (compEnvC scope cl C X.env) fp) tg g) (ht : ∀ s H C cl fp, PTs (blkP X X.pn s H scope (compEnvC scope cl C X.env) fp) ifs tt)
    (he : ∀ s H C cl fp, PE (blkP X X.pn s H scope (compEnvC scope cl C X.env) fp) elt te) (hs : ∀ x, foldedSetIterable iter X.env x = pure x) :
    PS X (.Assign [.Name y py] (.ListComp elt [⟨tg, iter, ifs, 0⟩] scope pos) spos) (tAsg (tLc wi g tt te (own.map (·.2))) (gName i)) := by
  refine ⟨fun pins s σ H D I h => ?_⟩
  rw [exec_Assign_Name_used _ _ _ _ hsw]
  have h : tLc wi g tt te (own.map (·.2)) σ H (fun x H1 => gName i x σ H1 D.nx) := h
  refine wpAny_bind (wpAny_standAt (wpAny_bind (wpAny_bind (thn (lc_hot (Qf := fun _ s' => SP X pins D .next s') (use := some (assign (.Name y py) X.env)) hc hN I hi ok hg ht he hs h fun L C s' m H' I' q hn f => ?_) fun _ s' hq => wpAny_pure (wpAny_pure hq)))))
  show wpAny _ _ (assign (.Name y py) X.env (.ref L)) _ _ _
  refine wpAny_assign_Name (store_ok2 (v := V.ref L) I' hN hy (.inl hyl) rfl (fun s2 I2 ⟨a, sb, ha⟩ => ⟨m, hn.sameBut sb ?_, fun h3 sb3 => ⟨_, H', turned1 (t' := s2.toks) I2 f fun b o hb e => (sb3.2 b hb).trans e, q⟩⟩) (.inr hyl))
  rcases ha with z | z
  · rw [z]; exact f.2.1
  · exact fun e => f.2.2.2.2.1 y a z e.symm
end
end J

set_option Elab.async false
set_option linter.all false
set_option maxRecDepth 100000
set_option maxHeartbeats 4000000
/-! defs that run where nothing is handled, or while an exception is handled (warm) -/
namespace J
open PySem PySem.Spec PyProof.Rows L2 L2H HotX
def Warm (X : Cx) : Prop := X.calm = true ∨ HotC X
/-- the same at a call -/
def WarmE (A : Around) (outer : List Env) (H : Hp) (s : Shared) : Prop := A.handled = none ∨ ∃ p, Hot1 A p ∧ PinOk outer H s p
section
variable {X : Cx} {pins : List (Addr × Obj)} {σ : L2.St} {H : Hp} {s : Shared}
theorem pinOk_of {p : Addr × Obj} (hp : p ∈ X.pn) (I : Inv X pins σ H s) : PinOk X.stack H s p := by
  obtain ⟨e, n, ne, nf, d⟩ := I.pin p (List.mem_append_left _ hp)
  exact ⟨e, n, fun hm => (List.mem_cons.mp (I.stkSub p.1 hm)).elim ne nf, d⟩
theorem Warm.at (w : Warm X) (I : Inv X pins σ H s) : WarmE X.A X.stack H s := by
  rcases w with hc | ⟨p, hot, hp⟩
  · exact .inl (I.ok.hd hc)
  · exact .inr ⟨p, hot, pinOk_of hp I⟩
end
theorem roomH_units {k : Nat} {A : Around} (r : RoomH k A) : A.units + 64 < cLine := by have := r.un; omega
theorem _root_.L2H.RoomH.units {k : Nat} {A : Around} (r : RoomH k A) : A.units + 64 < cLine := roomH_units r
theorem unitsW {k : Nat} {A : Around} (r : RoomH k A) : A.units + 65 < cLine := by have := r.un; omega
theorem unitsW1 {k : Nat} {A : Around} (r : RoomH k A) : A.units + 1 < cLine := by have := r.un; omega
theorem hu_of {A : Around} {k : Nat} (hr : RoomH k A) : A.units + 1 < cLine := unitsW1 hr
/-- a def's promise, warm -/
structure FnW (P : Program) (w : World) (K : PySem.W.Frag) (mg : Str → Option Value) (base : Heap) (k : Nat) (f : Addr) (fd : FuncData) (ps : List Str) (sp : Sp) : Prop where
  len : ∀ vs H Q E, sp vs H Q E → vs.length = ps.length
  run : ∀ (A : Around) (outer : List Env) (s : Shared) (H : Hp) (args : Args) (us : List Value) (vs : List V) (Q : VK) (E : XK), RoomH k A → WarmE A outer H s → Env0 P w K mg base A outer s H → BindsTo s fd args (ps.zip us) → Vals vs us → sp vs H Q E →
    codeAny (model P w) A (.call (.ref f) args) (L2.CR CX0 outer P w H s Q E) s
section
variable {P : Program} {w : World} {K : PySem.W.Frag} {mg : Str → Option Value} {base : Heap} {k : Nat} {f : Addr} {fd : FuncData} {ps : List Str} {sp : Sp}
theorem FnW.mono {j : Nat} (F : FnW P w K mg base j f fd ps sp) (h : j ≤ k) : FnW P w K mg base k f fd ps sp := ⟨F.len, fun A o s H ar us vs Q E hr => F.run A o s H ar us vs Q E (hr.mono h)⟩
theorem FnW.ok (F : FnW P w K mg base k f fd ps sp) : FnOk P w K mg base CX0 k f fd ps sp := ⟨F.len, fun A o s H ar us vs Q E hr => F.run A o s H ar us vs Q E (roomH_of hr) (.inl hr.hd)⟩
/-- the context of a warm def's body -/
abbrev cxW (P : Program) (w : World) (K : PySem.W.Frag) (mg : Str → Option Value) (base : Heap) (N : List Str) (qual : Str) (scope : Scope) (f : Addr) (cd : Value) (A : Around) (outer : List Env) (s : Shared) (H : Hp) (E : XK) (c : Bool) (pn : List (Addr × Obj)) : Cx :=
  { cxOf CX0 P w K mg base N qual scope f cd A outer s H E with calm := c, pn := pn, xe := fun _ _ => False }
theorem okW {x qual : Str} {st : Stmt} {N : List Str} (F : Fun K x qual st f fd) (S : FnScope N ps (defScope st)) (len : ∀ vs H Q E, sp vs H Q E → vs.length = ps.length)
    (hbody : ∀ (cdv : Value) (A : Around) (outer : List Env) (s : Shared) (H : Hp) (vs : List V) (Q : VK) (E : XK) (c : Bool) (pn : List (Addr × Obj)), Warm (cxW P w K mg base N qual (defScope st) f cdv A outer s H E c pn) →
      RoomH k (A.deeper (envOfC qual (defScope st) s.heap.objs.size f cdv)) → sp vs H Q E →
      ∃ t, PSs (cxW P w K mg base N qual (defScope st) f cdv A outer s H E c pn) (defBody st) t ∧ t { nx := fun _ H' => Q .non H', rt := Q } (L2.start N vs) H) : FnW P w K mg base (k + 1) f fd ps sp := by
  obtain ⟨oc, od, kV, doc, pm, an, cdv, ct, osl, rfl, lk, hcd⟩ := F.ex
  refine ⟨len, fun A outer s H args us vs Q E hr we e0 hb r hsp => ?_⟩
  rcases we with hd | ⟨p, hot, pin⟩
  · refine (fn_of (CX := CX0) (sp := sp) lk hcd S len fun A outer s H vs Q E hr hsp => ?_).run A outer s H args us vs Q E ⟨hd, hr.dp, hr.un⟩ e0 hb r hsp
    obtain ⟨t, h, q⟩ := hbody cdv A outer s H vs Q E true [] (.inl rfl) (roomH_of hr) hsp
    exact ⟨t, PSs.nox (X := cxOf CX0 P w K mg base N qual (defScope st) f cdv A outer s H E) h, q⟩
  · refine (fn_ofH (CX := CX0) (sp := sp) lk hcd S len fun A outer s H vs Q E p hot hr hsp => ?_).run A outer s H args us vs Q E p hr hot pin e0 hb r hsp
    obtain ⟨t, h, q⟩ := hbody cdv A outer s H vs Q E false [p] (.inr ⟨p, hot, List.mem_singleton_self p⟩) hr hsp
    exact ⟨t, PSs.nox (X := cxH CX0 P w K mg base N qual (defScope st) f cdv A outer s H E p) h, q⟩
theorem okWD {x qual : Str} {params : Arguments} {body : List Stmt} {scope : Scope} {dvs : List V} {kws : List (Str × V)} {N : List Str} (F : FunD K x qual params body scope dvs kws f fd) (S : FnScope N ps scope) (len : ∀ vs H Q E, sp vs H Q E → vs.length = ps.length)
    (hbody : ∀ (cdv : Value) (A : Around) (outer : List Env) (s : Shared) (H : Hp) (vs : List V) (Q : VK) (E : XK) (c : Bool) (pn : List (Addr × Obj)), Warm (cxW P w K mg base N qual scope f cdv A outer s H E c pn) →
      RoomH k (A.deeper (envOfC qual scope s.heap.objs.size f cdv)) → sp vs H Q E →
      ∃ t, PSs (cxW P w K mg base N qual scope f cdv A outer s H E c pn) body t ∧ t { nx := fun _ H' => Q .non H', rt := Q } (L2.start N vs) H) : FnW P w K mg base (k + 1) f fd ps sp := by
  obtain ⟨oc, od, dV, kV, doc, pm, an, cdv, ct, osl, rfl, lk, hcd, _, _⟩ := F.ex
  refine ⟨len, fun A outer s H args us vs Q E hr we e0 hb r hsp => ?_⟩
  rcases we with hd | ⟨p, hot, pin⟩
  · refine (fn_of (CX := CX0) (sp := sp) lk hcd S len fun A outer s H vs Q E hr hsp => ?_).run A outer s H args us vs Q E ⟨hd, hr.dp, hr.un⟩ e0 hb r hsp
    obtain ⟨t, h, q⟩ := hbody cdv A outer s H vs Q E true [] (.inl rfl) (roomH_of hr) hsp
    exact ⟨t, PSs.nox (X := cxOf CX0 P w K mg base N qual scope f cdv A outer s H E) h, q⟩
  · refine (fn_ofH (CX := CX0) (sp := sp) lk hcd S len fun A outer s H vs Q E p hot hr hsp => ?_).run A outer s H args us vs Q E p hr hot pin e0 hb r hsp
    obtain ⟨t, h, q⟩ := hbody cdv A outer s H vs Q E false [p] (.inr ⟨p, hot, List.mem_singleton_self p⟩) hr hsp
    exact ⟨t, PSs.nox (X := cxH CX0 P w K mg base N qual scope f cdv A outer s H E p) h, q⟩
end
/-! ### by their names -/
section
variable (P : Program) (w : World) (K : PySem.W.Frag) (mg : Str → Option Value) (base : Heap) (k : Nat)
structure ClW (x : Str) (sp : Sp) : Prop where
  ex : ∃ f fd ps, FnW P w K mg base k f fd ps sp ∧ mg x = some (.ref f) ∧ PySem.W.keepIn K (.ref f) = true ∧ L2.Binds K fd ps []
structure CalW (x : Str) (sp : Sp) (dvs : List V) : Prop where
  ex : ∃ (f : Addr) (fd : FuncData) (ps : List Str) (ds : List Value), FnW P w K mg base k f fd ps sp ∧ mg x = some (.ref f) ∧ PySem.W.keepIn K (.ref f) = true ∧ L2.Binds K fd ps ds ∧ Vals dvs ds
structure MetW (C : Addr) (m : Str) (sp : Sp) (dvs : List V) : Prop where
  ex : ∃ (f : Addr) (fd : FuncData) (ps : List Str) (ds : List Value), Cls K C ∧ Meth K C m f ∧ FnW P w K mg base k f fd ps sp ∧ L2.Binds K fd ps ds ∧ Vals dvs ds
structure MakW (x : Str) (C : Addr) (sp : Sp) (dvs : List V) : Prop where
  ex : ∃ (f : Addr) (fd : FuncData) (ps : List Str) (ds : List Value), Mk K C f ∧ FnW P w K mg base k f fd ps sp ∧ mg x = some (.ref C) ∧ L2.Binds K fd ps ds ∧ Vals dvs ds
structure ClKW (x : Str) (n : Nat) (ks : List Str) (sp : Sp) : Prop where
  ex : ∃ f fd ps g gV, FnW P w K mg base k f fd ps sp ∧ mg x = some (.ref f) ∧ PySem.W.keepIn K (.ref f) = true ∧ KBn K fd ps n ks g gV ∧ gV = fun vs zs => vs ++ zs
end
section
variable {P : Program} {w : World} {K : PySem.W.Frag} {mg : Str → Option Value} {base : Heap} {k : Nat} {x m : Str} {sp : Sp} {dvs : List V} {C : Addr}
theorem ClW.cl (c : ClW P w K mg base k x sp) : Cl P w K mg base CX0 k x sp := by
  obtain ⟨f, fd, ps, F, r⟩ := c.ex
  exact ⟨f, fd, ps, F.ok, r⟩
theorem MetW.met (c : MetW P w K mg base k C m sp dvs) : C8.Met P w K mg base k C m sp dvs := by
  obtain ⟨f, fd, ps, ds, h1, h2, F, r⟩ := c.ex
  exact ⟨f, fd, ps, ds, h1, h2, F.ok, r⟩
theorem MakW.mak (c : MakW P w K mg base k x C sp dvs) : C8.Mak P w K mg base k x C sp dvs := by
  obtain ⟨f, fd, ps, ds, h1, F, r⟩ := c.ex
  exact ⟨f, fd, ps, ds, h1, F.ok, r⟩
theorem CalW.cal (c : CalW P w K mg base k x sp dvs) : C8.Cal P w K mg base k x sp dvs := by
  obtain ⟨f, fd, ps, ds, F, r⟩ := c.ex
  exact ⟨f, fd, ps, ds, F.ok, r⟩
theorem ClKW.clk {n : Nat} {ks : List Str} (c : ClKW P w K mg base k x n ks sp) : ClK P w K mg base CX0 k x n ks sp := by
  obtain ⟨f, fd, ps, g, gV, F, r⟩ := c.ex
  exact ⟨f, fd, ps, g, gV, F.ok, r⟩
end
/-! ### calls -/
section
variable {X : Cx} {k j n : Nat} {f C : Addr} {fd : FuncData} {ps ks : List Str} {sp : Sp} {dvs : List V} {ds : List Value} {x m : Str} {p pos apos : Pos} {e o : Expr} {es : List Expr} {kws : List Keyword} {ta : TE} {t tk : TA}
theorem ends0 {pins : List (Addr × Obj)} {σ : L2.St} {H : Hp} {s s' : Shared} {Q : VK} {E : XK} {r : Result} (I : Inv X pins σ H s) (q : L2.CR CX0 X.stack X.prog X.w H s Q E r s') : ∃ u, r = .ok (.ret u) ∧ EP X pins σ Q u s' := by
  match r, q with
  | .error _, q => exact q.elim
  | .ok (.ret u), q => exact ⟨u, rfl, I.after q⟩
  | .ok .next, q => exact q.elim
  | .ok .brk, q => exact q.elim
  | .ok .cont, q => exact q.elim
theorem call0 {pins : List (Addr × Obj)} {σ : L2.St} {H : Hp} {s : Shared} {Q : VK} {us : List Value} {kw : List (Str × Value)} (I : Inv X pins σ H s)
    (h : codeAny (model X.prog X.w) X.A (.call (.ref f) ⟨us, kw⟩) (L2.CR CX0 X.stack X.prog X.w H s Q E0) s) : wpAny (model X.prog X.w) X.A (call (.ref f) us kw) (EP X pins σ Q) X.xe s :=
  wpAny_call (codeAny_mono h fun r s' q => by
    obtain ⟨u, rfl, e⟩ := ends0 I q
    exact e)
theorem run_fnW {pins : List (Addr × Obj)} {σ : L2.St} {H : Hp} {s : Shared} {Q : VK} {us : List Value} {vs : List V} (F : FnW X.prog X.w X.K X.mg X.base k f fd ps sp) (hw : Warm X) (hr : RoomH k X.A) (hb : L2.Binds X.K fd ps ds) (hd : Vals dvs ds)
    (I : Inv X pins σ H s) (r : Vals vs us) (h : sp (vs ++ dvs) H Q E0) : wpAny (model X.prog X.w) X.A (call (.ref f) us) (EP X pins σ Q) X.xe s := by
  have r2 : Vals (vs ++ dvs) (us ++ ds) := r.append hd
  exact call0 I (F.run X.A X.stack s H ⟨us, []⟩ (us ++ ds) (vs ++ dvs) Q E0 hr (hw.at I) I.env0 (hb s us I.kIn (r2.length.symm.trans (F.len _ _ _ _ h))) r2 h)
/-- f(e, ..) -/
theorem pe_clW (c : ClW X.prog X.w X.K X.mg X.base k x sp) (hw : Warm X) (hr : RoomH j X.A) (hk : k ≤ j) (ha : PA X (e :: es) t) (hg : Gl X x := by rfl) (hdb : (x == ("__debug__" : Str)) = false := by decide)
    (he : starEach (e :: es) X.env = (false, eval e X.env) :: starEach es X.env := by rfl) (hpl : (backTo pos (starEach es X.env)).any (·.1) = false := by rfl) : PE X (.Call (.Name x p) (e :: es) [] pos) (tCallS sp (fun _ => E0) t) := by
  obtain ⟨f, fd, ps, F, hm, kp, hb⟩ := c.ex
  exact ⟨fun pins s σ H Q I h => wpAny_Call_Name_kw (ld_glob I hg hm (PySem.W.callWith_K (h₀ := X.base) I.ok.mod.kin kp (thn (ha.run pos pins s σ H _ I h) fun us s1 ⟨vs, H1, I1, r, q⟩ =>
    ⟨I1.kIn, run_fnW (dvs := []) F hw (hr.mono hk) hb .nil I1 r (by rw [List.append_nil]; exact q)⟩) he hpl) hdb)⟩
theorem pe_clW0 (c : ClW X.prog X.w X.K X.mg X.base k x sp) (hw : Warm X) (hr : RoomH j X.A) (hk : k ≤ j) (hg : Gl X x := by rfl) (hdb : (x == ("__debug__" : Str)) = false := by decide) : PE X (.Call (.Name x p) [] [] pos) (tCall0 sp (fun _ => E0)) := by
  obtain ⟨f, fd, ps, F, hm, kp, hb⟩ := c.ex
  exact ⟨fun pins s σ H Q I h => wpAny_Call_Name_kw (ld_glob I hg hm (PySem.W.callWith_K0 I.kIn kp (run_fnW (us := []) (vs := []) (dvs := []) F hw (hr.mono hk) hb .nil I .nil h)) hdb)⟩
theorem pe_cldW (c : CalW X.prog X.w X.K X.mg X.base k x sp dvs) (hw : Warm X) (hr : RoomH j X.A) (hk : k ≤ j) (ha : PA X (e :: es) t) (hg : Gl X x := by rfl) (hdb : (x == ("__debug__" : Str)) = false := by decide)
    (he : starEach (e :: es) X.env = (false, eval e X.env) :: starEach es X.env := by rfl) (hpl : (backTo pos (starEach es X.env)).any (·.1) = false := by rfl) : PE X (.Call (.Name x p) (e :: es) [] pos) (tCall sp dvs E0 t) := by
  obtain ⟨f, fd, ps, ds, F, hm, kp, hb, hd⟩ := c.ex
  exact ⟨fun pins s σ H Q I h => wpAny_Call_Name_kw (ld_glob I hg hm (PySem.W.callWith_K (h₀ := X.base) I.ok.mod.kin kp (thn (ha.run pos pins s σ H _ I h) fun us s1 ⟨vs, H1, I1, r, q⟩ =>
    ⟨I1.kIn, run_fnW F hw (hr.mono hk) hb hd I1 r q⟩) he hpl) hdb)⟩
theorem pe_clKW (c : ClKW X.prog X.w X.K X.mg X.base k x n ks sp) (hw : Warm X) (hr : RoomH j X.A) (hk : k ≤ j) (ha : PA X (e :: es) t) (hkw : PK X kws tk) (hg : Gl X x := by rfl)
    (hall : (backToKw pos (keywordEach kws X.env)).all (·.1.isSome) = true := by rfl) (hks : (backToKw pos (keywordEach kws X.env)).filterMap (·.1) = ks := by rfl)
    (hdb : (x == ("__debug__" : Str)) = false := by decide) (he : starEach (e :: es) X.env = (false, eval e X.env) :: starEach es X.env := by rfl)
    (hpl : ((backTo pos (starEach (e :: es) X.env)).any (·.1) || (backToKw pos (keywordEach kws X.env)).any (·.1.isNone)) = false := by rfl) : PE X (.Call (.Name x p) (e :: es) kws pos) (tKw n ks.length sp t tk) := by
  obtain ⟨f, fd, ps, g, gV, F, hm, kp, hb, rfl⟩ := c.ex
  refine ⟨fun pins s σ H Q I h => wpAny_Call_Name_kw (ld_glob I hg hm ?_ hdb)⟩
  refine PySem.W.callWith_KW (h₀ := X.base) I.ok.mod.kin kp hall (thn (ha.run pos pins s σ H _ I h) fun us s1 ⟨vs, H1, I1, r, q⟩ => thn (hkw.run pos pins s1 σ H1 _ I1 q) fun ws s2 ⟨zs, H2, I2, rz, l1, l2, q2⟩ => ⟨I2.kIn, ?_⟩) hpl he
  rw [hks]
  have r2 : Vals (vs ++ zs) (g us ws) := hb.rel r rz
  have hl := r2.length.symm.trans (F.len _ _ _ _ q2)
  exact call0 I2 (F.run X.A X.stack s2 H2 ⟨us, ks.zip ws⟩ (g us ws) _ Q E0 (hr.mono hk) (hw.at I2) I2.env0 (hb.to s2 us ws I2.kIn (r.length.symm.trans l1) (rz.length.symm.trans l2)) r2 q2)
/-- o.m(e, ..) -/
theorem pe_mtW {pl : Sem Bool} (c : MetW X.prog X.w X.K X.mg X.base k C m sp dvs) (hw : Warm X) (hr : RoomH j X.A) (hk : k ≤ j) (he : PE X o ta) (ha : PA X (e :: es) t)
    (hst : starEach (e :: es) X.env = (false, eval e X.env) :: starEach es X.env := by rfl) (hpl : (backTo pos (starEach es X.env)).any (·.1) = false := by rfl)
    (ht : eval (.Call (.Attribute o m apos) (e :: es) [] pos) X.env = (do
      let ov ← eval o X.env
      standAt apos.atName
      let (f, first) ← holding [ov] (getMethod ov m pl)
      callWith pos f first (backTo pos (starEach (e :: es) X.env)) (backToKw pos (keywordEach [] X.env))) := by rfl) : PE X (.Call (.Attribute o m apos) (e :: es) [] pos) (tMeth C m sp dvs E0 ta t) := by
  obtain ⟨f, fd, ps, ds, hc, hm, F, hb, hd⟩ := c.ex
  refine ⟨fun pins s σ H Q I h => PySem.W.methodCall_KW (pl := pl) (thn (he.run pins s σ H _ I h) fun u s1 ⟨x, H1, I1, rx, a, dx, fs, ex, ea, l, q⟩ => ?_) ht⟩
  subst ex
  obtain rfl : u = Value.ref a := rx
  exact getmeth_ok I1 ea hc hm l (PySem.W.callWith_K (first := [.ref a]) (h₀ := X.base) I.ok.mod.kin hm.kp (thn (ha.run pos pins s1 σ H1 _ I1 q) fun us s2 ⟨vs, H2, I2, r, q2⟩ =>
    ⟨I2.kIn, run_fnW (us := .ref a :: us) (vs := .ref a :: vs) F hw (hr.mono hk) hb hd I2 (.cons rfl r) q2⟩) hst hpl)
theorem pe_mtW0 {pl : Sem Bool} (c : MetW X.prog X.w X.K X.mg X.base k C m sp dvs) (hw : Warm X) (hr : RoomH j X.A) (hk : k ≤ j) (he : PE X o ta)
    (ht : eval (.Call (.Attribute o m apos) [] [] pos) X.env = (do
      let ov ← eval o X.env
      standAt apos.atName
      let (f, first) ← holding [ov] (getMethod ov m pl)
      callWith pos f first (backTo pos (starEach [] X.env)) (backToKw pos (keywordEach [] X.env))) := by rfl) : PE X (.Call (.Attribute o m apos) [] [] pos) (tMeth C m sp dvs E0 ta tNil) := by
  obtain ⟨f, fd, ps, ds, hc, hm, F, hb, hd⟩ := c.ex
  refine ⟨fun pins s σ H Q I h => PySem.W.methodCall_KW (pl := pl) (thn (he.run pins s σ H _ I h) fun u s1 ⟨x, H1, I1, rx, a, dx, fs, ex, ea, l, q⟩ => ?_) ht⟩
  subst ex
  obtain rfl : u = Value.ref a := rx
  exact getmeth_ok I1 ea hc hm l (PySem.W.callWith_K0 (first := [.ref a]) I1.kIn hm.kp (run_fnW (us := [.ref a]) (vs := [.ref a]) F hw (hr.mono hk) hb hd I1 (.cons rfl .nil) q))
/-- C(e, ..) -/
theorem run_makeW {pins : List (Addr × Obj)} {σ : L2.St} {H : Hp} {s : Shared} {Q : VK} {us : List Value} {vs : List V} (M : Mk X.K C f) (F : FnW X.prog X.w X.K X.mg X.base k f fd ps sp) (hw : Warm X) (hr : RoomH (k + 1) X.A) (hb : L2.Binds X.K fd ps ds) (hd : Vals dvs ds)
    (I : Inv X pins σ H s) (r : Vals vs us) (h : MakeAt C sp dvs E0 vs H Q) : wpAny (model X.prog X.w) X.A (call (.ref C) us) (EP X pins σ Q) X.xe s := by
  have hq := h (s.heap.objs.size + 1) s.heap.objs.size (I.hok.fresh (Nat.le_succ _)) (I.hok.fresh (Nat.le_refl _)) (Nat.ne_of_lt (Nat.lt_succ_self _))
  have I2 := Inv.made (C := C) I
  have r2 : Vals (V.ref (s.heap.objs.size + 1) :: (vs ++ dvs)) (Value.ref (s.heap.objs.size + 1) :: (us ++ ds)) := .cons rfl (r.append hd)
  have we : WarmE (X.A.under (.builtin "type.__call__" ⟨.ref C :: us, []⟩)) X.stack _ _ := hw.at I2
  refine wpAny_call (make_map (f := f) I.kIn M.makes M.init (beq_iff_eq.mp M.fn) (codeAny_mono (F.run _ X.stack _ _ ⟨Value.ref (s.heap.objs.size + 1) :: us, []⟩ (Value.ref (s.heap.objs.size + 1) :: (us ++ ds)) _ _ E0 (RoomH.make hr C us []) we
    (I2.env0.make C us []) (hb _ (Value.ref (s.heap.objs.size + 1) :: us) I2.kIn (r2.length.symm.trans (F.len _ _ _ _ hq))) r2 hq) fun r s' hq' => ?_))
  obtain ⟨u, rfl, v, H', I3, rv, rfl, q3⟩ := ends0 I2 hq'
  exact ⟨rv, ⟨V.ref (s.heap.objs.size + 1), H', I3, rfl, q3⟩⟩
theorem pe_mkW (c : MakW X.prog X.w X.K X.mg X.base k x C sp dvs) (hw : Warm X) (hr : RoomH j X.A) (hk : k + 1 ≤ j) (ha : PA X (e :: es) t) (hg : Gl X x := by rfl) (hdb : (x == ("__debug__" : Str)) = false := by decide)
    (he : starEach (e :: es) X.env = (false, eval e X.env) :: starEach es X.env := by rfl) (hpl : (backTo pos (starEach es X.env)).any (·.1) = false := by rfl) : PE X (.Call (.Name x p) (e :: es) [] pos) (tMake C sp dvs E0 t) := by
  obtain ⟨f, fd, ps, ds, M, F, hm, hb, hd⟩ := c.ex
  exact ⟨fun pins s σ H Q I h => wpAny_Call_Name_kw (ld_glob I hg hm (PySem.W.callWith_K (h₀ := X.base) I.ok.mod.kin M.kp (thn (ha.run pos pins s σ H _ I h) fun us s1 ⟨vs, H1, I1, r, q⟩ =>
    ⟨I1.kIn, run_makeW M F hw (hr.mono hk) hb hd I1 r q⟩) he hpl) hdb)⟩
theorem pe_mkW0 (c : MakW X.prog X.w X.K X.mg X.base k x C sp dvs) (hw : Warm X) (hr : RoomH j X.A) (hk : k + 1 ≤ j) (hg : Gl X x := by rfl) (hdb : (x == ("__debug__" : Str)) = false := by decide) : PE X (.Call (.Name x p) [] [] pos) (tMake C sp dvs E0 tNil) := by
  obtain ⟨f, fd, ps, ds, M, F, hm, hb, hd⟩ := c.ex
  exact ⟨fun pins s σ H Q I h => wpAny_Call_Name_kw (ld_glob I hg hm (PySem.W.callWith_K0 I.kIn M.kp (run_makeW (us := []) M F hw (hr.mono hk) hb hd I .nil h)) hdb)⟩
end
end J

set_option Elab.async false
set_option linter.all false
set_option maxRecDepth 100000
set_option maxHeartbeats 4000000
/-! warm rules: what is walked, for, comprehensions -/
namespace J
open PySem PySem.Spec PyProof.Rows L2 L2H HotX
theorem vals3 {a b c : V} {us : List Value} (r : Vals [a, b, c] us) : ∃ u v w, us = [u, v, w] ∧ RelV a u ∧ RelV b v ∧ RelV c w := by
  cases r with
  | cons h r => cases r with
    | cons h' r => cases r with
      | cons h'' r => cases r; exact ⟨_, _, _, rfl, h, h', h''⟩
/-- what is walked, calm or hot -/
structure PIw (X : Cx) (tg iter : Expr) (wi : TI) : Prop where
  calm : PI X tg iter wi
  hot : PIH X tg iter wi
section
variable {X : Cx} {tg : Expr} {pins : List (Addr × Obj)} {σ : L2.St} {H : Hp} {s : Shared} {R : It → Hp → Prop}
/-- an iterator just made -/
theorem pih_one {J : It} {tn : Nat → Heap → Prop} {tk : Nat} (I : Inv X pins σ H s) (o : Obj) (T : TurnH X.prog X.w X.K tg J [s.heap.objs.size] s.heap.objs.size tn) (st : tn 0 (s.heap.push o)) (q : R J H) :
    PIEH X pins σ tg R (.ref s.heap.objs.size) { s with heap := s.heap.push o, toks := tk } := by
  refine ⟨s.heap.objs.size, [s.heap.objs.size], tn, J, H, rfl, I.kept fun b ob e => Heap.get?_push_of_some _ e, T, st, fun b hb => ?_, q⟩
  rw [List.mem_singleton.mp hb]
  exact I.fpOk (Nat.le_refl _) (I.hok.fresh (Nat.le_refl _))
end
section
variable {X : Cx} {K : PySem.W.Frag} {tg l : Expr} {tl : TE} {ta : TA} {p pos : Pos} {e a b c : Expr} {elts : List Expr} {kk : Nat} {tpos : Pos} {td : TE}
theorem pih_list (hl : PE X l tl) : PIH X tg l (iList X.K tl) := by
  refine ⟨fun pins s σ H R I h => thn (hl.run pins s σ H _ I h) fun v s1 ⟨x, H1, I1, r1, a, ex, ⟨xs, hq⟩, q⟩ => ?_⟩
  subst ex
  cases r1
  obtain ⟨its, rv, p, _⟩ := I1.list hq
  exact wpAny_pyIter_list p.isList (pih_one (tk := s1.toks) I1 _ (hturn_list a _) ⟨_, Heap.get?_push_size _ rfl, rfl, rfl⟩ q)
theorem pih_tup (hl : PE X l tl) : PIH X tg l (iTup X.K tl) := by
  refine ⟨fun pins s σ H R I h => thn (hl.run pins s σ H _ I h) fun v s1 ⟨x, H1, I1, r1, a, ex, ⟨xs, hq⟩, q⟩ => ?_⟩
  subst ex
  cases r1
  obtain ⟨its, rv, p, _⟩ := I1.tuple hq
  exact wpAny_pyIter_tuple (show s1.heap.IsTuple a its.toArray from p) (pih_one (tk := s1.toks) I1 _ (hturn_tuple a _) ⟨_, Heap.get?_push_size _ rfl, rfl, rfl⟩ q)
theorem pih_range2 (hg : Gl X "range") (hm : X.mg "range" = none) (ha : PA X [a, b] ta) (hs : starEach [a, b] X.env = [(false, eval a X.env), (false, eval b X.env)] := by rfl) (hs2 : starEach [b] X.env = [(false, eval b X.env)] := by rfl) :
    PIH X tg (.Call (.Name "range" p) [a, b] [] pos) (iRng2 ta) := by
  refine ⟨fun pins s σ H R I h => Call_ (ld_blt I hg hm boot_range (PyProof.Rows.callWith_type1 (thn (ha.run pos pins s σ H _ I h) fun us s1 ⟨vs, H1, I1, r1, i, j, ex, ⟨q1, q2, q3, q4⟩, q⟩ => ?_) (by rw [hs, hs2]) (by rw [hs2]; rfl)))⟩
  subst ex
  obtain ⟨u, u', rfl, ⟨t, rfl⟩, ⟨t', rfl⟩⟩ := vals2 r1
  exact call_range_2 (range_itH I1 q1 q2 q3 q4 q)
theorem pih_range3 (hg : Gl X "range") (hm : X.mg "range" = none) (ha : PA X [a, b, c] ta) (hs : starEach [a, b, c] X.env = (false, eval a X.env) :: starEach [b, c] X.env := by rfl) (hpl : (backTo pos (starEach [b, c] X.env)).any (·.1) = false := by rfl) :
    PIH X tg (.Call (.Name "range" p) [a, b, c] [] pos) (iRng3 ta) := by
  refine ⟨fun pins s σ H R I h => Call_ (ld_blt I hg hm boot_range (PyProof.Rows.callWith_type1 (thn (ha.run pos pins s σ H _ I h) fun us s1 ⟨vs, H1, I1, r1, i, j, k, n, ex, ⟨c0, c1, c2, c3⟩, q⟩ => ?_) hs hpl))⟩
  subst ex
  obtain ⟨u, u', u'', rfl, ⟨t, rfl⟩, ⟨t', rfl⟩, ⟨t'', rfl⟩⟩ := vals3 r1
  · refine call_range_3 c0 (wpAny_pyIter_range (IsRange.new ..) c2 ?_) (.inl (PyProof.noPylong_small c1))
    have I2 : Inv X pins σ H1 { s1 with heap := s1.heap.push { cls := .type "range", data := .fields #[.int i t, .int j t', .int k t''] } } := I1.kept (t' := s1.toks) fun b o e => Heap.get?_push_of_some _ e
    refine pih_one (tk := s1.toks) I2 _ (hturn_rangeC _ i k n) ?_ q
    show IsRangeIter _ _ (i + ((0 : Nat) : Int) * k) ((n : Int) - ((0 : Nat) : Int)) k
    rw [show i + ((0 : Nat) : Int) * k = i from by simp, show (n : Int) - ((0 : Nat) : Int) = Builtin.Range.rangeSize i j k from by rw [c3]; simp]
    exact Heap.get?_push_size _ rfl
theorem pih_reversed (hg : Gl X "reversed") (hm : X.mg "reversed" = none) (ha : PA X [e] ta) (hs : starEach [e] X.env = [(false, eval e X.env)] := by rfl) : PIH X tg (.Call (.Name "reversed" p) [e] [] pos) (iRev X.K ta) := by
  refine ⟨fun pins s σ H R I h => Call_ (ld_blt I hg hm PyProof.Rows.boot_reversed (PyProof.Rows.callWith_type1 (thn (ha.run pos pins s σ H _ I h) fun us s1 ⟨vs, H1, I1, r1, a, xs, ex, hq, q⟩ => ?_) hs rfl))⟩
  subst ex
  obtain ⟨u, rfl, rfl⟩ := vals1 r1
  · obtain ⟨its, rv, p', _⟩ := I1.list hq
    have hl := rv.length
    refine call_reversed_list p'.isList (wpAny_pyIter_revIter (l := a) (i := ((its.toArray.size : Nat) : Int) - 1) ⟨_, Heap.get?_push_size _ rfl, rfl, rfl⟩ (pih_one (tk := s1.toks) I1 _ (hturn_rev a _ xs.length) ⟨Nat.zero_le _, ?_⟩ q))
    rw [← show ((its.toArray.size : Nat) : Int) - 1 = (xs.length : Int) - 1 - ((0 : Nat) : Int) from by simp only [List.size_toArray]; omega]
    exact ⟨_, Heap.get?_push_size _ rfl, rfl, rfl⟩
theorem pih_enum (hg : Gl X "enumerate") (hm : X.mg "enumerate" = none) (ha : PA X [e] ta) (hs : starEach [e] X.env = [(false, eval e X.env)] := by rfl) : PIH X (.Tuple elts kk tpos) (.Call (.Name "enumerate" p) [e] [] pos) (iEnum X.K ta) := by
  refine ⟨fun pins s σ H R I h => Call_ (ld_blt I hg hm boot_enumerate (PyProof.Rows.callWith_type1 (thn (ha.run pos pins s σ H _ I h) fun us s1 ⟨vs, H1, I1, r1, a, xs, ex, hq, q⟩ => ?_) hs rfl))⟩
  subst ex
  obtain ⟨u, rfl, rfl⟩ := vals1 r1
  · obtain ⟨its, rv, p', _⟩ := I1.list hq
    refine call_enumerate_list p'.isList fun h' he hit hsz hk => wpAny_pyIter_enum he ⟨s1.heap.objs.size + 1, [s1.heap.objs.size + 1, s1.heap.objs.size], _, _, H1, rfl, I1.kept (t' := s1.toks) hk, hturn_enum a _ _, ⟨⟨.none, he⟩, hit, Nat.succ_ne_self _⟩, fun b hb => ?_, q⟩
    have hle : s1.heap.objs.size ≤ b := by
      rcases List.mem_cons.mp hb with z | z
      · rw [z]; exact Nat.le_succ _
      · exact Nat.le_of_eq (List.mem_singleton.mp z).symm
    exact I1.fpOk hle (I1.hok.fresh hle)
theorem pi_lstW (hl : PE X l tl) (e : X.K = K := by rfl) : PIw X tg l (iList K tl) := by subst e; exact ⟨pi_list hl, pih_list hl⟩
theorem pi_tplW (hl : PE X l tl) (e : X.K = K := by rfl) : PIw X tg l (iTup K tl) := by subst e; exact ⟨pi_tup hl, pih_tup hl⟩
theorem pi_range1W (hg : Gl X "range") (hm : X.mg "range" = none) (ha : PA X [a] ta) (hs : starEach [a] X.env = [(false, eval a X.env)] := by rfl) : PIw X tg (.Call (.Name "range" p) [a] [] pos) (iRng1 ta) := ⟨pi_range1 hg hm ha hs, pi_range1H hg hm ha hs⟩
theorem pi_range2W (hg : Gl X "range") (hm : X.mg "range" = none) (ha : PA X [a, b] ta) (hs : starEach [a, b] X.env = [(false, eval a X.env), (false, eval b X.env)] := by rfl) (hs2 : starEach [b] X.env = [(false, eval b X.env)] := by rfl) :
    PIw X tg (.Call (.Name "range" p) [a, b] [] pos) (iRng2 ta) := ⟨pi_range2 hg hm ha hs hs2, pih_range2 hg hm ha hs hs2⟩
theorem pi_range3W (hg : Gl X "range") (hm : X.mg "range" = none) (ha : PA X [a, b, c] ta) (hs : starEach [a, b, c] X.env = (false, eval a X.env) :: starEach [b, c] X.env := by rfl) (hpl : (backTo pos (starEach [b, c] X.env)).any (·.1) = false := by rfl) :
    PIw X tg (.Call (.Name "range" p) [a, b, c] [] pos) (iRng3 ta) := ⟨pi_range3 hg hm ha hs hpl, pih_range3 hg hm ha hs hpl⟩
theorem pi_reversedW (hg : Gl X "reversed") (hm : X.mg "reversed" = none) (ha : PA X [e] ta) (ek : X.K = K := by rfl) (hs : starEach [e] X.env = [(false, eval e X.env)] := by rfl) : PIw X tg (.Call (.Name "reversed" p) [e] [] pos) (iRev K ta) := by
  subst ek
  exact ⟨pi_reversed hg hm ha hs, pih_reversed hg hm ha hs⟩
theorem pi_enumW (hg : Gl X "enumerate") (hm : X.mg "enumerate" = none) (ha : PA X [e] ta) (ek : X.K = K := by rfl) (hs : starEach [e] X.env = [(false, eval e X.env)] := by rfl) : PIw X (.Tuple elts kk tpos) (.Call (.Name "enumerate" p) [e] [] pos) (iEnum K ta) := by
  subst ek
  exact ⟨pi_enum hg hm ha hs, pih_enum hg hm ha hs⟩
/-! ### for, comprehensions -/
theorem ps_forW {iter : Expr} {body : List Stmt} {wi : TI} {g : TG} {tb : TS} (hp : PassesOwn (model X.prog X.w) X.A X.env X.xe) (hw : Warm X) (hi : PIw X tg iter wi) (hg : PG X tg g) (hb : PSs X body tb)
    (hs : ∀ x, foldedSetIterable iter X.env x = pure x := by intro _; rfl) : PS X (.For tg iter body [] pos) (tFor wi g tb) :=
  hw.elim (fun hc => ps_for hp hc hi.calm hg hb hs) fun hc => ps_forH hp hc hi.hot hg hb hs
abbrev ElW (X : Cx) (scope : Scope) (J : Cx → Prop) : Prop := ∀ (s : Shared) (H : Hp) (C : Addr) (cl : List (Str × Addr)) (fp : List Addr) (pn : List (Addr × Obj)), Warm (blkP X pn s H scope (compEnvC scope cl C X.env) fp) → J (blkP X pn s H scope (compEnvC scope cl C X.env) fp)
theorem pe_lcW {elt iter : Expr} {ifs : List Expr} {scope : Scope} {own : List (Str × Nat)} {wi : TI} {g : TG} {tt : TT} {te : TE} (hw : Warm X) (hN : X.N.Nodup) (hi : PIw X tg iter wi) (ok : BlkOk X.N X.env.scope scope own)
    (hg : ElW X scope fun Y => PG Y tg g) (ht : ElW X scope fun Y => PTs Y ifs tt) (he : ElW X scope fun Y => PE Y elt te) (hs : ∀ x, foldedSetIterable iter X.env x = pure x := by intro _; rfl) : PE X (.ListComp elt [⟨tg, iter, ifs, 0⟩] scope pos) (tLc wi g tt te (own.map (·.2))) :=
  hw.elim (fun hc => pe_lc hc hN hi.calm ok (fun s H C cl fp => hg s H C cl fp [] (.inl hc)) (fun s H C cl fp => ht s H C cl fp [] (.inl hc)) (fun s H C cl fp => he s H C cl fp [] (.inl hc)) hs)
    fun hc => pe_lcHot hc hN hi.hot ok (fun s H C cl fp => hg s H C cl fp X.pn (.inr hc)) (fun s H C cl fp => ht s H C cl fp X.pn (.inr hc)) (fun s H C cl fp => he s H C cl fp X.pn (.inr hc)) hs
theorem ps_setLcW {i : Nat} {y : Str} {py : Pos} {elt iter : Expr} {ifs : List Expr} {scope : Scope} {own : List (Str × Nat)} {spos : Pos} {wi : TI} {g : TG} {tt : TT} {te : TE} (hw : Warm X) (hN : X.N.Nodup) (hy : X.N[i]? = some y) (hyl : X.env.scope.names.lookup y = some .local)
    (hsw : swapsWith (.ListComp elt [⟨tg, iter, ifs, 0⟩] scope pos) (some (.Name y py)) spos.line X.env = pure true) (hi : PIw X tg iter wi) (ok : BlkOk X.N X.env.scope scope own)
    (hg : ElW X scope fun Y => PG Y tg g) (ht : ElW X scope fun Y => PTs Y ifs tt) (he : ElW X scope fun Y => PE Y elt te) (hs : ∀ x, foldedSetIterable iter X.env x = pure x := by intro _; rfl) :
    PS X (.Assign [.Name y py] (.ListComp elt [⟨tg, iter, ifs, 0⟩] scope pos) spos) (tAsg (tLc wi g tt te (own.map (·.2))) (gName i)) :=
  hw.elim (fun hc => ps_setLc hc hN hy hyl hsw hi.calm ok (fun s H C cl fp => hg s H C cl fp [] (.inl hc)) (fun s H C cl fp => ht s H C cl fp [] (.inl hc)) (fun s H C cl fp => he s H C cl fp [] (.inl hc)) hs)
    fun hc => ps_setLcHot hc hN hy hyl hsw hi.hot ok (fun s H C cl fp => hg s H C cl fp X.pn (.inr hc)) (fun s H C cl fp => ht s H C cl fp X.pn (.inr hc)) (fun s H C cl fp => he s H C cl fp X.pn (.inr hc)) hs
end
end J

set_option Elab.async false
set_option linter.all false
set_option maxRecDepth 100000
set_option maxHeartbeats 400000
/-! warm rules: tuple targets, all, sum, sorted(d) -/
namespace J
open PySem PySem.Spec PyProof.Rows L2 L2H HotX
section
variable {prog : Program} {w : World} {A : Around} {E : Value → Shared → Prop} {s : Shared} {x1 : Addr}
theorem unpack_hot {t : Addr} {items : Array Value} {Q : List Value → Shared → Prop} (hot : HotAt A x1 s.heap) (ht : IsTup s.heap t items)
    (hQ : ∀ h', (∀ b o, s.heap.get? b = some o → h'.get? b = some o) → Q items.toList { s with heap := h' }) : wpAny (model prog w) A (unpackItems (.ref t) items.size none) Q E s := by
  have lt : t < s.heap.objs.size := Heap.lt_size ht.choose_spec.1
  have lx : x1 < s.heap.objs.size := Heap.lt_size hot.2.choose_spec.choose_spec.1
  unfold unpackItems notIterableAtAll
  refine wpAny_bind (wpAny_bind (wpAny_specialOf ht.typeIs slot_tuple_iter.lookup (wpAny_pure ?_)))
  simp only [Bool.false_eq_true, if_false]
  refine wpAny_bind (wpAny_holding (iter_tuple ht (wpAny_bind (wpAny_holding (draw_tuple (Nat.ne_of_lt lt) items.size 0 _ _ ⟨_, Heap.get?_push_size _ rfl, rfl, rfl⟩ (ht.push _) (by omega) fun h1 it1 s1 => ?_)))))
  have up : ∀ b o, s.heap.get? b = some o → h1.get? b = some o := fun b o e => s1.extBut b o (Nat.ne_of_lt (Heap.lt_size e)) (Heap.get?_push_of_some _ e)
  have whole : List.take items.size (List.drop 0 items.toList) = items.toList := by rw [List.drop_zero]; exact List.take_of_length_le (by simp)
  rw [whole, if_neg (by simp)]
  have t1 : IsTup h1 t items := (ht.push _).extBut s1.extBut (Nat.ne_of_lt lt)
  refine wpAny_bind (wpAny_holding (next_tuple_stop (x1 := x1) (hot_keeps hot fun o e => up _ o e) (show h1.IsTupleIter s.heap.objs.size t (0 + items.size) from it1) (show h1.IsTuple t items from t1) (by simp) (Nat.ne_of_lt lx) fun h2 e2 => ?_))
  simp only [Option.isSome_none, Bool.false_eq_true, if_false]
  exact wpAny_pure (hQ h2 fun b o e => e2 b o (Nat.ne_of_lt (Heap.lt_size e)) (up b o e))
end
section
variable {X : Cx} {K : PySem.W.Frag} {pos : Pos}
theorem pg_tplW {es : List Expr} {k n : Nat} {t : TGs} (hw : Warm X) (h : PGs X es t) (hn : (assignEach es X.env).length = n := by rfl) (hst : (assignEach es X.env).findIdx? (·.1) = none := by rfl)
    (e : X.K = K := by rfl) : PG X (.Tuple es k pos) (gTup K n t) := by
  subst e
  refine hw.elim (fun hc => pg_tup hc h hn hst) fun hc => ⟨fun pins s σ H v u Q I r ⟨a, xs, e1, hq, hl, hx⟩ => ?_⟩
  subst e1
  cases r
  obtain ⟨its, rv, ht, _⟩ := I.tuple hq
  obtain ⟨x1, hot, _⟩ := hot_at hc I
  have hz : (assignEach es X.env).length = its.toArray.size := by simp [hn, ← hl, rv.length]
  rw [assign_Tuple]
  refine wpAny_bind (wpAny_standAt ?_)
  unfold unpack
  rw [hz, hst]
  refine wpAny_bind (wpAny_holding (unpack_hot hot ht fun h' kp => h.run pins _ σ H xs _ Q (I.kept (t' := s.toks) kp) (by simpa using rv) hx))
/-! ### all, sum -/
theorem walks_hot {prog : Program} {w : World} {A : Around} {x1 : Addr} (I ax : Addr) (hne : ax ≠ I) (h1 : x1 ≠ I) (hh : A.handled = some (.ref x1)) (items : Array Value) :
    Walks prog w A I [I, ax, x1] [I] items.size (fun i v => items[i]? = some v) (fun i h => h.IsListIter I ax i ∧ h.IsList ax items ∧ HotAt A x1 h) where
  sub := fun b hb => by rw [List.mem_singleton.mp hb]; exact List.mem_cons_self
  frame := fun _ _ _ st hk => ⟨st.1.at fun o e => hk I (by simp) o e, st.2.1.at fun o e => hk ax (by simp) o e, hot_keeps st.2.2 fun o e => hk x1 (by simp) o e⟩
  item := fun i s Q E hi st hQ => wpAny_pyNext_list_item st.1 st.2.1 (x := items[i]) (by simp [hi]) fun h' it' sb =>
    hQ _ h' s.toks (by simp [hi]) ⟨it', st.2.1.extBut sb.extBut hne, hot_keeps st.2.2 fun o e => sb.extBut _ _ h1 e⟩ fun b o hb e => sb.extBut b o (fun z => hb (by simp [z])) e
  done := fun s Q E st hQ => next_list_stop st.2.2 st.1 st.2.1 (by simp) h1 fun h' eb => hQ h' s.toks fun b o hb e => eb b o (fun z => hb (by simp [z])) e
  self := fun _ _ _ _ st hQ => wpAny_pyIter_listiter st.1 hQ
theorem hot_lt {A : Around} {x1 : Addr} {h : Heap} (hot : HotAt A x1 h) : x1 < h.objs.size := Heap.lt_size hot.2.choose_spec.choose_spec.1
theorem cr_allHot (hc : HotC X) : CallR X (.builtin "all") (rAll X.K) := by
  rintro pins s σ H vs us Q I r ⟨a, bs, rfl, hs, q⟩
  obtain ⟨its, rv, hl, _⟩ := I.list hs
  obtain ⟨x1, hot, _⟩ := hot_at hc I
  rw [Vals.ref1 r]
  have hb := rv.bls
  refine call_all_walk (iter_any hl.isList fun s₂ e2 st hne => ?_)
  subst e2
  refine ⟨_, _, _, _, _, _, _, rfl, walks_hot (A := X.A.in1) (x1 := x1) _ a hne (Nat.ne_of_lt (hot_lt hot)) hot.1 its.toArray, ⟨st.1, st.2, hot_keeps hot fun o e => Heap.get?_push_of_some _ e⟩, truth_bools hb, fun h' tk hk => ?_⟩
  refine ⟨.bl _, H, I.kept fun b o eo => hk b o (fun hm => ?_) (Heap.get?_push_of_some _ eo), ?_, q⟩
  · exact absurd (List.mem_singleton.mp hm ▸ Heap.lt_size eo) (Nat.lt_irrefl _)
  · show Value.bool _ = Value.bool _
    rw [← L2.all_range, hb, List.size_toArray, List.length_map]
theorem cr_sumHot (hc : HotC X) : CallR X (.builtin "sum") (rSum X.K) := by
  rintro pins s σ H vs us Q I r ⟨a, ns, rfl, hs, q⟩
  obtain ⟨its, rv, hl, _⟩ := I.list hs
  obtain ⟨x1, hot, _⟩ := hot_at hc I
  rw [Vals.ref1 r]
  have hi := rv.ints
  obtain ⟨xs, e⟩ := hi.allInts.items
  have hn : numsOf (intItems xs).toList = ns := by rw [← e]; exact hi.numsOf
  rw [nums_intItems] at hn
  have hl' : s.heap.IsList a (intItems xs) := by rw [← e]; exact hl.isList
  refine call_sum_walkG (iter_intList hl' fun s₂ e2 st hfp hlI => ?_)
  subst e2
  refine ⟨_, _, _, _, _, _, numAt xs, rfl, walks_hot (A := X.A.in1) (x1 := x1) _ a hlI (Nat.ne_of_lt (hot_lt hot)) hot.1 (intItems xs), ⟨st.1, st.2, hot_keeps hot fun o e => Heap.get?_push_of_some _ e⟩, fun b hb => ?_, fun _ _ => intItems_at, fun h' tk t' hk => ?_⟩
  · rcases List.mem_cons.mp hb with z | hb
    · exact hfp b (z ▸ List.mem_cons_self)
    · rcases List.mem_cons.mp hb with z | hb
      · exact hfp b (z ▸ List.mem_cons_of_mem _ List.mem_cons_self)
      · rw [List.mem_singleton.mp hb]
        exact Nat.lt_trans (hot_lt hot) (by rw [Heap.size_push]; exact Nat.lt_succ_self _)
  · have e3 : preSum (numAt xs) (intItems xs).size = ns.sum := by rw [preSum_eq, List.take_of_length_le (by simp [intItems]), hn]
    rw [e3]
    exact ⟨.int _, H, I.kept fun b o eo => hk b o (fun hm => absurd (List.mem_singleton.mp hm ▸ Heap.lt_size eo) (Nat.lt_irrefl _)) (Heap.get?_push_of_some _ eo), ⟨_, rfl⟩, q⟩
theorem call_allW (hw : Warm X) (e : X.K = K := by rfl) : CallR X (.builtin "all") (rAll K) := by subst e; exact hw.elim cr_all cr_allHot
theorem call_sumW (hw : Warm X) (e : X.K = K := by rfl) : CallR X (.builtin "sum") (rSum K) := by subst e; exact hw.elim cr_sum cr_sumHot
end
end J

set_option Elab.async false
set_option linter.all false
set_option maxRecDepth 100000
set_option maxHeartbeats 1000000
/-! warm rules: sorted(d) of int keys -/
namespace J
open PySem PySem.Spec PyProof.Rows L2 L2H HotX
section
variable {prog : Program} {w : World} {A : Around} {E : Value → Shared → Prop} {s : Shared} {x1 d : Addr} {kvs : List (L2.Key × Value)} {ep : Nat}
theorem walksD_hot (I : Addr) (hne : d ≠ I) (h1 : x1 ≠ I) (hh : A.handled = some (.ref x1)) :
    Walks prog w A I [I, d, x1] [I] kvs.length (fun i v => ∃ k x, kvs[i]? = some (k, x) ∧ (mixKind prog w).is k v = true) (fun i h => h.IsKeyIter I d i kvs.length ep ∧ h.DictAt (mixKind prog w) d kvs ep ∧ HotAt A x1 h) where
  sub := fun b hb => by rw [List.mem_singleton.mp hb]; exact List.mem_cons_self
  frame := fun _ _ _ st hk => ⟨st.1.at fun o e => hk I (by simp) o e, st.2.1.at' fun o e => hk d (by simp) o e, hot_keeps st.2.2 fun o e => hk x1 (by simp) o e⟩
  item := fun i s Q E hi st hQ => by
    have hx : kvs[i]? = some kvs[i] := List.getElem?_eq_getElem hi
    refine wpAny_pyNext_dict_item st.1 st.2.1 hx fun key h' hkey it' sb => hQ key h' s.toks ⟨_, _, hx, hkey⟩ ⟨it', st.2.1.extBut sb.extBut hne, hot_keeps st.2.2 fun o e => sb.extBut _ _ h1 e⟩ fun b o hb e => sb.extBut b o (fun z => hb (by simp [z])) e
  done := fun s Q E st hQ => by
    obtain ⟨od, es, ho, hd, hsz⟩ : ∃ od es, s.heap.get? d = some od ∧ od.data = .dict es ep ∧ es.size = kvs.length := by
      obtain ⟨od, es, ho, _, hd, _, hp, _⟩ := st.2.1
      exact ⟨od, es, ho, hd, by rw [← Array.length_toList]; exact hp.length⟩
    exact next_key_stop st.2.2 st.1 ho hd hsz (Nat.le_refl _) h1 fun h' eb => hQ h' s.toks fun b o hb e => eb b o (fun z => hb (by simp [z])) e
  self := fun _ _ _ _ st hQ => wpAny_pyIter_keyiter st.1 hQ
/-- the keys of a dict, collected while x1 is handled -/
theorem collect_hot {R : List Value → Shared → Prop} (lo : (d == sysModules) = false) (hot : HotAt A x1 s.heap) (hat : s.heap.DictAt (mixKind prog w) d kvs ep) (hn : kvs.length ≤ sizeLine)
    (h : ∀ (h' : Heap) (tk : Nat) (acc : Array Value), (∀ b o, s.heap.get? b = some o → h'.get? b = some o) → ItemsOf (fun i v => ∃ k x, kvs[i]? = some (k, x) ∧ (mixKind prog w).is k v = true) acc kvs.length → R acc.toList { s with heap := h', toks := tk }) :
    wpAny (model prog w) A (collect (.ref d)) R E s := by
  have ld := hat.lt_size
  have lx := hot_lt hot
  unfold collect
  refine wpAny_bind (wpAny_runValue (codeAny_builtin entry_proto_collect' ?_))
  rw [Around.under_plainId PySem.F.plain_proto_collect _]
  show wpAny _ A.in1 (newList [] >>= fun l => again (.builtin "list.__iadd__" ⟨[l, .ref d], []⟩)) _ _ s
  refine wpAny_bind (wpAny_newObj_type (wpAny_pure ⟨plainId_quiet PySem.F.plain_list_iadd _, codeAny_builtin entry_list_iadd' ?_⟩))
  rw [Around.under_plainId PySem.F.plain_list_iadd _]
  generalize eS : s.heap.objs.size = S
  show wpAny _ A.in1 (Builtin.List.listExtendWith (.ref S) (.ref d) (.ref S)) _ _ _
  have ldS : d < S := eS ▸ ld
  have lxS : x1 < S := eS ▸ lx
  -- the walk
  have loop : ∀ (h0 : Heap) (tk c1 : Nat), h0.IsKeyIter (S + 1) d 0 kvs.length ep → (∀ b o, b ≠ S → s.heap.get? b = some o → h0.get? b = some o) → h0.get? S = some { cls := .type "list", data := .seq #[] c1 } →
      codeAny (model prog w) A (.builtin "list.extend.loop" ⟨[.ref S, .ref (S + 1), .ref S], []⟩) (fun q s' => ∃ (h' : Heap) (t' : Nat) (acc : Array Value) (c : Nat), q = .ok (.ret (.ref S)) ∧ s' = { s with heap := h', toks := t' } ∧ (∀ b o, s.heap.get? b = some o → h'.get? b = some o) ∧
        h'.get? S = some { cls := .type "list", dict := none, data := .seq acc c, slots := #[] } ∧ ItemsOf (fun i v => ∃ k x, kvs[i]? = some (k, x) ∧ (mixKind prog w).is k v = true) acc kvs.length) { s with heap := h0, toks := tk } := by
    intro h0 tk c1 hit up hS
    have nd : d ≠ S := Nat.ne_of_lt ldS
    have nx : x1 ≠ S := Nat.ne_of_lt lxS
    refine codeAny_extend_loopS (walksD_hot (A := A.in1) (kvs := kvs) (ep := ep) (prog := prog) (w := w) (S + 1) (Nat.ne_of_lt (Nat.lt_succ_of_lt ldS)) (Nat.ne_of_lt (Nat.lt_succ_of_lt lxS)) hot.1).toS hn S ?_ (.ref S) kvs.length 0 _ #[] c1 rfl (Nat.zero_le _) ⟨hit, hat.at' fun o e => up d o nd e, hot_keeps hot fun o e => up x1 o nx e⟩ hS (ItemsOf.nil _) fun s' acc c hm hS' hacc => ?_
    · simp only [List.mem_cons, List.not_mem_nil, or_false, not_or]
      exact ⟨Nat.ne_of_lt (Nat.lt_succ_self S), Ne.symm nd, Ne.symm nx⟩
    · rw [Moved.eq_with hm]
      refine ⟨s'.heap, s'.toks, acc, c, rfl, rfl, fun b o e => hm.heap b o (fun hmem => ?_) (up b o (Nat.ne_of_lt (eS ▸ Heap.lt_size e)) e), hS', hacc⟩
      have lb := Heap.lt_size e
      rw [eS] at lb
      rcases List.mem_cons.mp hmem with z | z
      · rw [z] at lb
        exact Nat.lt_irrefl _ lb
      · rw [List.mem_singleton.mp z] at lb
        exact Nat.lt_irrefl _ (Nat.lt_trans (Nat.lt_succ_self S) lb)
  have hS1 : (s.heap.push { cls := .type "list", data := .seq ([] : List Value).toArray }).get? S = some { cls := .type "list", data := .seq #[] } := eS ▸ Heap.get?_push_size _ rfl
  have hat1 := hat.push { cls := .type "list", data := .seq ([] : List Value).toArray }
  have sz1 : (s.heap.push { cls := .type "list", data := .seq ([] : List Value).toArray }).objs.size = S + 1 := by rw [Heap.size_push, eS]
  unfold Builtin.List.listExtendWith
  refine wpAny_bind (wpAny_typeOf (T := "dict") hat1.dictOf.typeIs ?_)
  have hne : Builtin.List.listSameRef (.ref S) (.ref d) = false := by simp [Builtin.List.listSameRef, Nat.ne_of_gt ldS]
  have n1 : (Value.type "dict" == Value.type "list") = false := by decide
  have n2 : (Value.type "dict" == Value.type "tuple") = false := by decide
  simp only [hne, n1, n2, Bool.or_false, Bool.false_eq_true, if_false]
  refine wpAny_bind (wpAny_pyIter_dict lo hat1 ?_)
  dsimp only
  rw [sz1]
  generalize eh : (s.heap.push { cls := .type "list", data := .seq ([] : List Value).toArray }) = h1 at hS1 hat1 sz1 ⊢
  have up1 : ∀ b o, s.heap.get? b = some o → h1.get? b = some o := fun b o e => by rw [← eh]; exact Heap.get?_push_of_some _ e
  have hit : (h1.push { cls := .type "dict_keyiterator", data := .fields #[.ref d, .int 0 0, .int kvs.length 0, .int ep 0] }).IsKeyIter (S + 1) d 0 kvs.length ep := ⟨_, sz1 ▸ Heap.get?_push_size _ rfl, rfl, rfl⟩
  generalize eh2 : (h1.push { cls := .type "dict_keyiterator", data := .fields #[.ref d, .int 0 0, .int kvs.length 0, .int ep 0] }) = h2 at hit
  have up2 : ∀ b o, h1.get? b = some o → h2.get? b = some o := fun b o e => by rw [← eh2]; exact Heap.get?_push_of_some _ e
  have fin : ∀ (h0 : Heap) (c1 : Nat), h0.IsKeyIter (S + 1) d 0 kvs.length ep → (∀ b o, b ≠ S → h2.get? b = some o → h0.get? b = some o) → h0.get? S = some { cls := .type "list", data := .seq #[] c1 } →
      codeAny (model prog w) A (.builtin "list.extend.loop" ⟨[.ref S, .ref (S + 1), .ref S], []⟩) (fun r s' => match r with
        | .ok (.ret v) => wpAny (model prog w) A (match v with | .ref a => (do match (← load a).data with | .seq xs _ => pure xs.toList | _ => unsupported "internal:collect" : Sem (List Value)) | _ => unsupported "internal:collect") R E s'
        | .ok _ => False
        | .error e => E e s') { s with heap := h0 } := fun h0 c1 a1 a2 a3 => by
    refine codeAny_mono (loop h0 s.toks c1 a1 (fun b o hb e => a2 b o hb (up2 b o (up1 b o e))) a3) fun q s' z => ?_
    obtain ⟨h', t', acc, c, rfl, rfl, kp, hS', hacc⟩ := z
    exact wpAny_bind (wpAny_load hS' (wpAny_pure (h h' t' acc kp hacc)))
  refine wpAny_bind (wpAny_holding (PySem.W.kdl_hint_dict (hat1.at' fun o e => up2 d o e).dictOf.typeIs ?_))
  have hS2 : h2.get? S = some { cls := .type "list", data := .seq #[] } := up2 _ _ hS1
  refine wpAny_ite_split (fun _ => ?_) (fun _ => wpAny_pure ⟨plainId_quiet PySem.F.plain_extend_loop _, fin h2 0 hit (fun b o _ e => e) hS2⟩)
  refine wpAny_bind (wpAny_rule (wpAny_bind ?_))
  show wpAny _ _ (updateSeq S (·.push .none) >>= fun _ => updateSeq S (·.pop)) _ _ _
  have hS3 := Heap.get?_update_self (Obj.mapSeq (·.push Value.none)) hS2 rfl
  have hS4 := Heap.get?_update_self (Obj.mapSeq (·.pop)) hS3 rfl
  refine wpAny_bind (wpAny_updateSeq hS2 rfl (wpAny_updateSeq (hz := by seq_fits) hS3 rfl (wpAny_pure ⟨plainId_quiet PySem.F.plain_extend_loop _, ?_⟩)))
  have oth : ∀ b o, b ≠ S → h2.get? b = some o → ((h2.update S (Obj.mapSeq (·.push Value.none))).update S (Obj.mapSeq (·.pop))).get? b = some o := fun b o hb e =>
    (Heap.get?_update_other _ _ (Ne.symm hb)).trans ((Heap.get?_update_other _ _ (Ne.symm hb)).trans e)
  exact fin _ _ (hit.at fun o e => oth _ _ (Nat.ne_of_gt (Nat.lt_succ_self S)) e) oth hS4
end
section
variable {X : Cx}
theorem cr_sortedDIHot (hc : HotC X) : CallR X (.builtin "sorted") rSortedDI := by
  rintro pins s σ H xs us Q I r ⟨a, kvs, ks, ex, hd, hks, h64, q⟩
  subst ex
  obtain ⟨u, eu, rx⟩ := vals1 r
  subst eu
  cases rx
  obtain ⟨x1, hot, _⟩ := hot_at hc I
  obtain ⟨z, lo, vs, rel, dd⟩ := dk_rd I.hok (.inl hd)
  obtain ⟨ep, hat⟩ := dd.dictAt
  have hkeys : vs.map (·.1) = ks.map Sum.inl := rel.keys.symm.trans hks
  have hl : vs.length = ks.length := by
    have e := congrArg List.length hkeys
    rwa [List.length_map, List.length_map] at e
  have h16 : vs.length ≤ sizeLine := by rw [hl, sizeLine_eq]; omega
  refine Calls.call_function_entry PyProof.Rows.kind_sorted PyProof.Rows.plain_sorted PyProof.Rows.entry_sorted (PyProof.Rows.args_sorted1 _) ?_
  unfold Builtin.«sorted»
  refine wpAny_bind (m := checkCount "sorted" 1 1 _) (wpAny_pure (wpAny_bind (collect_hot (A := X.A.in1) (x1 := x1) lo (hot_in1 hot) hat h16 fun h' tk acc hk hacc => ?_)))
  have hal : acc.toList.length = vs.length := by rw [Array.length_toList, hacc.1]
  have rv0 := keys_at (us := acc.toList) (vs := vs) hal fun j v e => by
    obtain ⟨k, x, e1, e2⟩ := hacc.2 j v (by rw [← Array.getElem?_toList]; exact e)
    exact ⟨k, x, e1, e2⟩
  have ek : (vs.map fun p => kV p.1) = ks.map V.int := by
    have e1 : (vs.map fun p => kV p.1) = (vs.map (·.1)).map kV := by rw [List.map_map]; rfl
    rw [e1, hkeys, List.map_map]; rfl
  rw [ek] at rv0
  have hi := rv0.ints
  have I1 : Inv X pins σ H { s with heap := h', toks := tk } := I.kept hk
  refine wpAny_bind (wpAny_newList ?_ (by rw [hal, hl, sizeLine_eq]; omega))
  have hoL : (h'.push (seqObj "list" acc.toList.toArray 0)).get? h'.objs.size = some (seqObj "list" acc.toList.toArray 0) := Heap.get?_push_size _ rfl
  show wpAny _ _ _ _ _ { s with heap := h'.push (seqObj "list" acc.toList.toArray 0), toks := tk }
  refine wpAny_bind (wpAny_holding (wpAny_call_entry PyProof.Rows.slot_list_sort ⟨_, hoL, rfl⟩ PyProof.Rows.entry_list_sort
    (SrtO.list_sort_ord (s := { s with heap := h'.push (seqObj "list" acc.toList.toArray 0), toks := tk }) SrtO.swo_int hoL (by rw [hal, hl, sizeLine_eq]; omega) (fun h2 => SrtO.ints_sortable hi h2) fun out h1 h2 => ⟨_, rfl, ?_⟩)
    (PyProof.Rows.args_list_sort _)))
  obtain ⟨k1, k2, k3⟩ := SrtO.ints_out hi h1 h2
  obtain ⟨e', he'⟩ := PyProof.Rows.sortedHeap_at (vs := acc.toList) (out := out.toArray) hoL
  have hlen : ((out.map SrtO.iv).map V.int).length ≤ sizeLine := by
    rw [List.length_map, k2.length_eq]
    exact Nat.le_trans (Nat.le_of_lt h64) (by decide)
  refine wpAny_pure ⟨_, rfl, .ref h'.objs.size, upd H h'.objs.size (.lst ((out.map SrtO.iv).map V.int)), I1.laid (t' := tk) (fun b u e => ?_) (Nat.le_refl _)
    (show ObjOk X.prog X.w _ _ h'.objs.size (.lst ((out.map SrtO.iv).map V.int)) from ⟨hlen, out, e', vals_of_ints k1, he'⟩), rfl, q _ _ k2 k3 (I1.hok.fresh (Nat.le_refl _))⟩
  have hb : b < h'.objs.size := Heap.lt_size e
  rw [PyProof.Rows.sortedHeap_old (Nat.ne_of_lt hb) (by rw [size_push']; exact Nat.lt_succ_of_lt hb)]
  exact Heap.get?_push_of_some _ e
theorem cr_sortedDIW (hw : Warm X) : CallR X (.builtin "sorted") rSortedDI := hw.elim cr_sortedDI cr_sortedDIHot
end
end J

set_option Elab.async false
set_option linter.all false
set_option maxRecDepth 100000
set_option maxHeartbeats 1000000
/-! exceptions whose context is none: what a hot suite wants -/
namespace J
open PySem PySem.Spec PyProof.Rows L2 L2H HotX
section
variable {P : Program} {w : World} {K : PySem.W.Frag} {mg : Str → Option Value} {base : Heap} {k : Nat} {f : Addr} {fd : FuncData} {ps : List Str} {sp : Sp}
theorem okN {x qual : Str} {st : Stmt} {N : List Str} (F : Fun K x qual st f fd) (S : FnScope N ps (defScope st)) (len : ∀ vs H Q E, sp vs H Q E → vs.length = ps.length)
    (hbody : ∀ (cdv : Value) (A : Around) (outer : List Env) (s : Shared) (H : Hp) (vs : List V) (Q : VK) (E : XK), Room k (A.deeper (envOfC qual (defScope st) s.heap.objs.size f cdv)) → sp vs H Q E →
      ∃ t, PSs (cxOf (L2N.CX P w) P w K mg base N qual (defScope st) f cdv A outer s H E) (defBody st) t ∧ t { nx := fun _ H' => Q .non H', rt := Q } (L2.start N vs) H) : FnOk P w K mg base (L2N.CX P w) (k + 1) f fd ps sp := by
  obtain ⟨oc, od, kV, doc, pm, an, cdv, ct, osl, rfl, lk, hcd⟩ := F.ex
  exact fn_of lk hcd S len fun A outer s H vs Q E hr hsp => hbody cdv A outer s H vs Q E hr hsp
end
/-- a new exception of an own class, nothing handled -/
theorem pmk_xN {X : Cx} {k j : Nat} {sp : Sp} {x : Str} {C : Addr} {p pos : Pos} {e : Expr} {es : List Expr} {ta : TA} (c : Oex X.prog X.w X.K X.mg X.base k x C sp) (hr : Room j X.A) (hk : k + 1 ≤ j) (ha : PA X (e :: es) ta) (hg : Gl X x := by rfl)
    (hdb : (x == ("__debug__" : Str)) = false := by decide) (he : starEach (e :: es) X.env = (false, eval e X.env) :: starEach es X.env := by rfl) (hpl : (backTo pos (starEach es X.env)).any (·.1) = false := by rfl) :
    L2N.PMk X (.Call (.Name x p) (e :: es) [] pos) (tMkO C sp [] ta) := by
  obtain ⟨fI, fd, ps, Fn, T, iC, tI, hm, hb⟩ := c.ex
  obtain ⟨nm, q, N, bs, bm, sn, sub, ab, col, dd, k0, k1, k2, k3, k5, hC, hbm⟩ := T.cls
  intro pins s σ H Q I h
  refine wpAny_Call_Name_kw (ld_glob I hg hm (PySem.W.callWith_K (h₀ := X.base) I.ok.mod.kin T.kC (thn (ha.run pos pins s σ H _ I h) fun us s1 ⟨vs, H1, I1, r1, hz, q1⟩ => ⟨I1.kIn, ?_⟩) he hpl) hdb)
  show wpAny _ _ (call (.ref C) us) _ _ _
  obtain ⟨hp, g, dr, tk, os⟩ := s1
  obtain ⟨a, ea⟩ : ∃ a, a = hp.objs.size + 1 := ⟨_, rfl⟩
  have hsz : hp.objs.size ≤ a := ea ▸ Nat.le_succ _
  have hn : H1 a = none := I1.hok.fresh hsz
  have hq := q1 a hn
  obtain ⟨hp2, eh⟩ : ∃ hp2, hp2 = (hp.push (PySem.W.kdv_tup us)).push (PySem.HandSPX.excO C hp.objs.size) := ⟨_, rfl⟩
  have kk : ∀ b o, hp.get? b = some o → hp2.get? b = some o := fun b o e => by rw [eh]; exact Heap.get?_push_of_some _ (Heap.get?_push_of_some _ e)
  have at_a : hp2.get? a = some (PySem.HandSPX.excO C hp.objs.size) := by rw [eh, ea]; heap_get
  have I2 : Inv X pins σ (upd H1 a (exo a C none)) ⟨hp2, g, dr, tk, os⟩ := I1.laid (t' := tk) (a := a) (h' := hp2) kk hsz (exo_ok at_a)
  have r2 : Vals (V.ref a :: (vs ++ [])) (Value.ref a :: (us ++ [])) := .cons rfl (r1.append .nil)
  have hus : us.length ≤ sizeLine := by rw [← Paired.length r1, sizeLine_eq]; omega
  have b2 : BindsTo _ fd ⟨Value.ref a :: us, []⟩ (ps.zip (Value.ref a :: (us ++ []))) := hb _ (Value.ref a :: us) I2.kIn (r2.length.symm.trans (Fn.len _ _ _ _ hq))
  have run := Fn.run _ X.stack _ _ ⟨Value.ref a :: us, []⟩ (Value.ref a :: (us ++ [])) _ _ (fun _ _ _ => False) (Room.make (hr.mono hk) C us []) (I2.env0.make C us []) b2 r2 hq
  subst ea eh
  refine wpAny_call (PySem.HandSPX.call_own F.excBase_ValueError (fun Y => PySem.HandSPX.refsVE_contains Y bm hbm) (I1.kIn _ _ hC) (PySem.W.looks_findIn I1.kIn iC) (fun self => PySem.W.bind_fn I1.kIn self tI) hus (codeAny_mono run fun r s' hq' => ?_))
  match r, hq' with
  | .error er, hq' => exact hq'.elim
  | .ok .next, hq' => exact hq'.elim
  | .ok .brk, hq' => exact hq'.elim
  | .ok .cont, hq' => exact hq'.elim
  | .ok (.ret u), hq' =>
    obtain ⟨v, H2, os2, bare2, un2, hok2, rv, rfl, d, fs, ea, ed, hd1, q2⟩ := hq'
    obtain ⟨h2, g2, d2, t2, os'⟩ := s'
    obtain ⟨t0, G, J, kG, ge, hoe, na⟩ := mk_end0 (d2 := d2) (t2 := t2) I1 hsz kk un2 hok2 os2 bare2 ea ed hd1
    exact ⟨rv, ⟨_, _, _, ⟨G, g2, d2, t2, os'⟩, _, .ref C, some d, rfl, J, kG, ge, hoe, ⟨rfl, rfl, fun vs hv => by cases hv; rfl⟩, rfl, rfl, na, rfl, bare2, raises_own T.exC T.tyC, q2⟩⟩
theorem takesN {X : Cx} : L2N.Takes X (fun _ _ _ _ => False) := fun _ _ x => by
  obtain ⟨_, _, _, _, _, _, _, _, _, _, _, _, _, _, _, _, z⟩ := x
  exact z.elim
/-- try: body / except x: suite, the suite warm; nothing is let out -/
theorem ps_try_warm {X : Cx} {x : Str} {c : Value} {body suite : List Stmt} {b₀ : Stmt} {np pos pos' : Pos} {tb : WX → TS} {ts : Addr → Value → Option Addr → TS} (hxe : X.xe = fun _ _ => False) (hs : X.stack = X.env :: X.outer) (hf : X.env.frame = some X.env.locals) (hc : Names X x c)
    (hb : ∀ (W : WX) (pn : List (Addr × Obj)) (xe : Value → Shared → Prop), L2N.Takes (X.tr pn xe) W → PassesOwn (model X.prog X.w) X.A X.env xe → PSs (X.tr pn xe) body (tb W))
    (hsu : ∀ (a : Addr) (oe : Obj) (cls : Value) (d : Option Addr) (pn : List (Addr × Obj)), L2N.Zn cls d oe → (∃ vs, oe.data = .fields vs) → Warm (suiteX X a ((a, oe) :: pn)) → PSs (suiteX X a ((a, oe) :: pn)) (b₀ :: suite) (ts a cls d)) :
    PS X (.Try body [.ExceptHandler (some (.Name x np)) none (b₀ :: suite) pos'] [] [] pos) (fun D σ H => tb (wOnly X.K c ts (fun _ _ _ _ => False) D) D σ H) :=
  ps_try_onlyX (Wout := fun _ _ _ _ => False) hs hf hc (fun hd => by rw [hxe]; exact PassesOwnAt.never) takes0 (fun W pn xe tk _ po => hb W pn xe tk po) (fun a oe cls d pn hz hf' _ hot => hsu a oe cls d pn hz hf' (.inr hot))
theorem fn_liftN {P : Program} {w : World} {K : PySem.W.Frag} {mg : Str → Option Value} {base : Heap} {k : Nat} {f : Addr} {fd : FuncData} {ps : List Str} {sp : Sp} (F : FnOk P w K mg base CX0 k f fd ps sp) : FnOk P w K mg base (L2N.CX P w) k f fd ps sp :=
  ⟨F.len, fun A outer s H args us vs Q E hr e0 hb r h => codeAny_mono (F.run A outer s H args us vs Q E hr e0 hb r h) fun r s' q => by
    match r, q with
    | .error e, q => exact q.elim
    | .ok (.ret u), q => exact q
    | .ok .next, q => exact q
    | .ok .brk, q => exact q
    | .ok .cont, q => exact q⟩
end J

set_option Elab.async false
set_option linter.all false
set_option maxRecDepth 100000
set_option maxHeartbeats 1000000
/-! warm rules: dict(pairs) -/
namespace J
open PySem PySem.Spec PyProof.Rows L2 L2H HotX
section
variable {α : Type} {prog : Program} {w : World} {A : Around} {E : Value → Shared → Prop} {s : Shared} {x1 : Addr}
structure NewAttrHot (x1 : Addr) (h h' : Heap) (e : Addr) (o : Value) (name : Str) : Prop where
  keeps : ∀ b ob, h.get? b = some ob → h'.get? b = some ob
  there : ∃ t u, h'.get? e = some { cls := .type "AttributeError", data := .fields #[t, .none, .ref x1, .none, .bool false, .none, .str name u, o] }
theorem raiseAttr_hot {o : Value} {name : Str} {msg : Str} {Q : α → Shared → Prop} (hot : HotAt A x1 s.heap)
    (h : ∀ h' tk e, NewAttrHot x1 s.heap h' e o name → E (.ref e) { s with heap := h', toks := tk }) (hm : msg.length ≤ sizeLine) : wpAny (model prog w) A (raiseAttrError o name msg : Sem α) Q E s := by
  obtain ⟨hh, o1, vs1, e1, d1, c1⟩ := hot
  unfold raiseAttrError
  refine wpAny_bind (wpAny_mkStr (wpAny_bind ?_) hm)
  unfold newExc newTuple
  refine wpAny_bind (wpAny_newObj_type (wpAny_bind (m := firstArgMember _ _) (wpAny_of_eq (a := Value.none) (by simp only [firstArgMember, attrError_no_first]; rfl) ?_)) (by size_fits))
  rw [ownMembersOf_AttributeError]
  refine wpAny_newObj_type ?_ (by size_fits)
  obtain ⟨hp, g, d, tk, os⟩ := s
  have f1 := sub_AttributeError
  repeat (any_goals (first | assumption | wp_step))
  dsimp only at e1 h ⊢
  have up : ∀ {ob1 ob2 : Obj} {f : Obj → Obj} {b : Addr} {u : Obj}, hp.get? b = some u → (((hp.push ob1).push ob2).update (hp.push ob1).objs.size f).get? b = some u := fun {ob1 ob2 f b u} e =>
    (Heap.get?_update_other _ _ (Nat.ne_of_gt (Heap.lt_size (Heap.get?_push_of_some _ e)))).trans (Heap.get?_push_of_some _ (Heap.get?_push_of_some _ e))
  refine raiseNew_hot (x1 := x1) ⟨hh, o1, vs1, up e1, d1, c1⟩ (Nat.ne_of_lt (Heap.lt_size (Heap.get?_push_of_some _ e1))) (Heap.get?_update_self _ (Heap.get?_push_size _ rfl) rfl) rfl ?_ ?_
  · first | (simp; done) | (simp; omega)
  · refine h _ _ _ ⟨fun b ob eb => ?_, _, _, Heap.get?_update_self _ (Heap.get?_update_self _ (Heap.get?_push_size _ rfl) rfl) rfl⟩
    exact (Heap.get?_update_other _ _ (Nat.ne_of_gt (Heap.lt_size (Heap.get?_push_of_some _ eb)))).trans (up eb)
def raisesAttrHot (x1 : Addr) (o : Value) (name : Str) : PySem.Spec := fun A R s => HotAt A x1 s.heap ∧ ∀ h' tk e, NewAttrHot x1 s.heap h' e o name → R (.error (.ref e)) { s with heap := h', toks := tk }
theorem meets_miss_hot (a : Addr) (xs : Array Value) (k : Nat) (sl : Array (Option Value)) (name : Str) (u : Tok) (hmiss : typeLookup (.type "list") name = pure none)
    (hname : (["__module__", "__name__", "__qualname__", "__doc__", "__annotations__"] : List Str).contains name = false) (hsz : name.length + 100 ≤ sizeLine) :
    Meets (Builtin.«object.__getattribute__» ⟨[.ref a, .str name u], []⟩) (fun A R s => s.heap.get? a = some { cls := .type "list", dict := none, data := .seq xs k, slots := sl } ∧ raisesAttrHot x1 (.ref a) name A R s) :=
  Meets.of_wp fun prog w A R s ⟨hx, hs⟩ => by
    obtain ⟨hp, g, d, tk, os⟩ := s
    have hT : (⟨hp, g, d, tk, os⟩ : Shared).TypeIs (.ref a) "list" := ⟨_, hx, rfl⟩
    unfold Builtin.«object.__getattribute__»
    repeat (any_goals (first | assumption | wp_step))
    simp only [hname, Bool.false_eq_true, if_false]
    repeat (any_goals (first | assumption | wp_step))
    exact raiseAttr_hot hs.1 hs.2 (attrMsg_fits (by decide +kernel) hsz)
theorem miss_hot {a : Addr} {o : Obj} {xs : Array Value} {k : Nat} {Q : Option Value → Shared → Prop} (hx : s.heap.get? a = some o) (hc : o.cls = .type "list") (hdat : o.data = .seq xs k) (hd : o.dict = none) (hot : HotAt A x1 s.heap)
    (h : ∀ h' tk, (∀ b ob, s.heap.get? b = some ob → h'.get? b = some ob) → Q none { s with heap := h', toks := tk }) : wpAny (model prog w) A (getAttr? (.ref a) "keys") Q E s := by
  obtain ⟨c, dct, dat, sl⟩ := o
  simp only at hc hdat hd
  subst hc hdat hd
  obtain ⟨hp, g, d, tk, os⟩ := s
  have hT : ∀ tk', (⟨hp, g, d, tk', os⟩ : Shared).TypeIs (.ref a) "list" := fun _ => ⟨_, hx, rfl⟩
  have hmiss := list_keys_none
  have hname : (["__module__", "__name__", "__qualname__", "__doc__", "__annotations__"] : List Str).contains "keys" = false := by decide +kernel
  have hsz : ("keys" : Str).length + 100 ≤ sizeLine := by first | size_fits | decide +kernel
  have f1 := sub_AttributeError
  have f3 := PySem.F.slot_list_getattribute.lookup
  have f4 := PySem.F.slot_list_getattribute.bind (.ref a)
  have f5 := am_list_getattr_none
  unfold getAttr? getAttrBy? getAttrBy
  repeat (any_goals (first | assumption | exact hT _ | ((with_reducible show wpAny _ _ (call (Value.builtin "list.__getattribute__") _ _) _ _ _); refine call_meets PySem.F.slot_list_getattribute (hT _) am_entry_list_getattribute (PySem.F.args_list_getattribute_2 _ _) (meets_miss_hot a xs k sl "keys" _ hmiss hname hsz) ⟨hx, hot, fun h' tk' e hx' => ?_⟩) | wp_step))
  obtain ⟨t', u', he⟩ := hx'.there
  show wpAny _ _ (getattributeRaised _ _ _ _ _ _ _) _ _ _
  unfold getattributeRaised
  repeat (any_goals (first | assumption | wp_step))
  all_goals first | exact h _ _ hx'.keeps | (dsimp only; repeat (any_goals (first | assumption | exact h _ _ hx'.keeps | wp_step)))
/-- the pairs of a list laid into the new dict at S; x1 is handled -/
theorem upd_hot {R : Result → Shared → Prop} {S I l : Addr} {items : Array Value} {res : Value} (hlI : l ≠ I) (hSI : S ≠ I) (hSl : S ≠ l) (xI : x1 ≠ I) (xS : x1 ≠ S) :
    ∀ (rest : List (L2.Key × Value)) (i : Nat) (acc : List (L2.Key × Value)) (ix : Int) (t : Tok) (s : Shared), items.size = i + rest.length → acc.length + rest.length ≤ sizeLine →
      (∀ (j : Nat) (q : L2.Key × Value), rest[j]? = some q → ∃ (b : Addr) (u : Value), items[i + j]? = some (.ref b) ∧ b ≠ S ∧ b ≠ I ∧ IsTup s.heap b #[u, q.2] ∧ keyIs q.1 u = true) →
      s.heap.IsListIter I l i → s.heap.IsList l items → s.heap.DictOf (mixKind prog w) S acc → HotAt A x1 s.heap →
      (∀ h' tk, h'.DictOf (mixKind prog w) S (merged acc rest) → (∀ b o, b ≠ S → b ≠ I → s.heap.get? b = some o → h'.get? b = some o) → R (.ok (.ret res)) { s with heap := h', toks := tk }) →
      codeAny (model prog w) A (.builtin "dict.update.loop" ⟨[.ref S, .ref I, .int ix t, res], []⟩) R s := by
  intro rest
  induction rest with
  | nil =>
    intro i acc ix t s hsz hln ht hit hl hm hot hR
    refine codeAny_builtin ud_entry ?_
    rw [Around.under_plainId ud_plain _]
    show wpAny _ A.in1 (pyNext (.ref I) >>= _) _ _ s
    refine wpAny_bind (next_list_stop (hot_in1 hot) hit hl (Array.getElem?_eq_none (Nat.le_of_eq hsz)) xI fun h' he => ?_)
    show wpAny _ A.in1 (Builtin.Dict.addKeywords S [] >>= _) _ _ _
    exact wpAny_bind (wpAny_pure (wpAny_pure (hR h' s.toks (hm.extBut he hSI) fun b o _ hb e => he b o hb e)))
  | cons q rest ih =>
    intro i acc ix t s hsz hln ht hit hl hm hot hR
    obtain ⟨b, u, hb, hbS, hbI, htup, hk⟩ := ht 0 q rfl
    rw [List.length_cons] at hsz hln
    refine codeAny_builtin ud_entry ?_
    rw [Around.under_plainId ud_plain _]
    show wpAny _ A.in1 (pyNext (.ref I) >>= _) _ _ s
    refine wpAny_bind (wpAny_pyNext_list_item (x := .ref b) hit hl (by simpa using hb) fun h1 hit1 hs1 => ?_)
    have ht1 : IsTup h1 b #[u, q.2] := htup.extBut hs1.extBut hbI
    obtain ⟨o, ho, hc, n, hd⟩ := id ht1
    show wpAny _ A.in1 (holding [Value.ref b] _ >>= _) _ _ _
    refine wpAny_bind (wpAny_holding (wpAny_bind (wpAny_tryCatch ?_)))
    unfold Builtin.Dict.pairItems
    refine wpAny_bind (wpAny_typeOf (T := "tuple") ⟨o, ho, hc⟩ ?_)
    rw [if_pos (by first | decide | rfl | simp)]
    refine wpAny_bind (wpAny_seqItems ho hd (wpAny_pure ?_))
    show wpAny _ A.in1 (holding [u, q.2] (dictSet S u q.2)) _ _ _
    refine wpAny_holding (wpAny_dictSet_pairs (knd := mixKind prog w) (k := q.1) hk (hm.extBut hs1.extBut hSI) (fun h2 hm2 hs2 => wpAny_pure ⟨plainId_quiet ud_plain _, ?_⟩) (by omega))
    have up : ∀ c oc, c ≠ S → c ≠ I → s.heap.get? c = some oc → h2.get? c = some oc := fun c oc h3 h4 e => hs2.extBut c oc h3 (hs1.extBut c oc h4 e)
    refine ih (i + 1) (stored acc q.1 q.2) (ix + 1) 0 _ (by omega) ?_ (fun j q' e => ?_) (hit1.at fun o' e => hs2.extBut I o' (Ne.symm hSI) e) ((hl.extBut hs1.extBut hlI).extBut hs2.extBut (Ne.symm hSl)) hm2 (hot_keeps hot fun o' e => up x1 o' xS xI e) fun h' tk hd' k => hR h' tk hd' fun c oc h3 h4 e => k c oc h3 h4 (up c oc h3 h4 e)
    · have z := stored_length_le acc q.1 q.2
      omega
    · obtain ⟨b', u', hb', hbS', hbI', htup', hk'⟩ := ht (j + 1) q' (by simpa using e)
      exact ⟨b', u', by rw [show i + 1 + j = i + (j + 1) by omega]; exact hb', hbS', hbI', (htup'.extBut hs1.extBut hbI').extBut hs2.extBut hbS', hk'⟩
theorem dict_hot {l : Addr} {ol : Obj} {items : Array Value} {n : Nat} {prs : List (L2.Key × Value)} {Q : Value → Shared → Prop} (hot : HotAt A x1 s.heap) (hl : s.heap.get? l = some ol) (hc : ol.cls = .type "list") (hd : ol.dict = none)
    (hdat : ol.data = .seq items n) (hsz : items.size = prs.length) (hln : prs.length ≤ sizeLine)
    (ht : ∀ (j : Nat) (q : L2.Key × Value), prs[j]? = some q → ∃ (b : Addr) (u : Value), items[j]? = some (.ref b) ∧ IsTup s.heap b #[u, q.2] ∧ keyIs q.1 u = true)
    (h : ∀ h' tk, h'.DictOf (mixKind prog w) s.heap.objs.size (merged [] prs) → (∀ b o, s.heap.get? b = some o → h'.get? b = some o) → Q (.ref s.heap.objs.size) { s with heap := h', toks := tk }) :
    wpAny (model prog w) A (call (.type "dict") [.ref l]) Q E s := by
  have lx := hot_lt hot
  have ll : l < s.heap.objs.size := Heap.lt_size hl
  refine callType_codes (Q₁ := fun obj s₁ => obj = .ref s.heap.objs.size ∧ s₁ = { s with heap := s.heap.push { cls := .type "dict", data := .dict #[] } }) PySem.F.kt_called_dict (PySem.F.kt_typeCall_dict_1 _) PySem.F.entry_dict_init (kt_code_dict_new _ ⟨rfl, rfl⟩) ?_
  rintro obj s₁ ⟨rfl, rfl⟩
  have hnew : (s.heap.push { cls := .type "dict", data := .dict #[] }).DictOf (mixKind prog w) s.heap.objs.size [] := Heap.DictOf.new s.heap
  have k0 : ∀ b o, s.heap.get? b = some o → (s.heap.push { cls := .type "dict", data := .dict #[] }).get? b = some o := fun b o e => Heap.get?_push_of_some _ e
  refine ⟨hnew.typeIs, PySem.F.args_dict_init_2 _ _, ?_⟩
  unfold Builtin.«dict.__init__» Builtin.Dict.selfAndRest
  refine wpAny_bind (wpAny_bind (wpAny_notOrdered_dict hnew.typeIs ?_))
  show wpAny _ _ (pure (s.heap.objs.size, [Value.ref l])) _ _ _
  refine wpAny_pure ?_
  show wpAny _ _ (Builtin.Dict.updateFrom "dict.__init__" s.heap.objs.size (.ref l) [] .none) _ _ _
  unfold Builtin.Dict.updateFrom
  refine wpAny_bind (wpAny_typeOf (T := "list") ⟨ol, k0 _ _ hl, hc⟩ ?_)
  rw [if_pos (by first | decide | rfl | simp)]
  refine wpAny_bind (miss_hot (x1 := x1) (k0 _ _ hl) hc hdat hd (hot_keeps hot fun o e => k0 _ _ e) fun h1 tk1 hk1 => ?_)
  rw [if_pos (show (none : Option Value).isNone = true from rfl)]
  have kk : ∀ b o, s.heap.get? b = some o → h1.get? b = some o := fun b o e => hk1 _ _ (k0 _ _ e)
  have hl1 : h1.IsList l items := ⟨ol, kk _ _ hl, hc, n, hdat⟩
  have hS1 : s.heap.objs.size < h1.objs.size := Heap.lt_size (hk1 _ _ (Heap.get?_push_size s.heap (o := { cls := .type "dict", data := .dict #[] }) rfl))
  refine wpAny_bind (wpAny_rule (wpAny_bind (wpAny_pyIter_list hl1 ?_)))
  have k2 : ∀ b o, h1.get? b = some o → (h1.push { cls := .type "list_iterator", data := .fields #[.ref l, .int 0 0] }).get? b = some o := fun b o e => Heap.get?_push_of_some _ e
  have key := upd_hot (prog := prog) (w := w) (A := A.in1) (x1 := x1) (R := wants (fun r s₂ => r = .none ∧ Q (.ref s.heap.objs.size) s₂) E) (S := s.heap.objs.size) (I := h1.objs.size) (l := l) (items := items) (res := Value.none)
    (Nat.ne_of_lt (Nat.lt_trans ll hS1)) (Nat.ne_of_lt hS1) (Nat.ne_of_gt ll) (Nat.ne_of_lt (Nat.lt_trans lx hS1)) (Nat.ne_of_lt lx) prs 0 [] 0 0
    { s with heap := h1.push { cls := .type "list_iterator", data := .fields #[.ref l, .int 0 0] }, toks := tk1 } (by rw [hsz, Nat.zero_add]) (by rw [List.length_nil, Nat.zero_add]; exact hln)
    (fun j q e => by
      obtain ⟨b, u, e1, e2, e3⟩ := ht j q e
      exact ⟨b, u, by rw [Nat.zero_add]; exact e1, Nat.ne_of_lt e2.lt, Nat.ne_of_lt (Nat.lt_trans e2.lt hS1), e2.keeps fun c o z => k2 _ _ (kk _ _ z), e3⟩)
    ⟨_, Heap.get?_push_size _ rfl, rfl, rfl⟩ (hl1.at fun o e => k2 _ _ e) ((hnew.at fun o e => hk1 _ _ e).at fun o e => k2 _ _ e) (hot_keeps hot fun o e => k2 _ _ (kk _ _ e))
    (fun h' tk hd' k => ⟨rfl, h h' tk hd' fun b o e => k b o (Nat.ne_of_lt (Heap.lt_size e)) (Nat.ne_of_lt (Nat.lt_trans (Heap.lt_size e) hS1)) (k2 _ _ (kk _ _ e))⟩)
  first
    | exact wpAny_pure ⟨plainId_quiet ud_plain _, key⟩
    | exact wpAny_bind (wpAny_pure (wpAny_pure ⟨plainId_quiet ud_plain _, key⟩))
end
section
variable {X : Cx} {K : PySem.W.Frag}
theorem call_dictPHot (hc : HotC X) : CallR X (.type "dict") (rDictP X.K) := by
  rintro pins s σ H xs us Q I r ⟨a, ps, kvs, ex, hq, hp, q⟩
  subst ex
  obtain ⟨u, eu, rx⟩ := vals1 r
  subst eu
  cases rx
  obtain ⟨x1, hot, _⟩ := hot_at hc I
  obtain ⟨its, rv, pl, hz⟩ := I.list hq
  have ei := refs_at rv
  subst ei
  rw [List.length_map] at hz
  obtain ⟨prs, rel, hl, hpr⟩ := L2.pairs_of I hp
  obtain ⟨o, n, ho, hc, hd, hdat⟩ := pl
  refine dict_hot (prs := prs) hot ho hc hd hdat (by simp [hl]) (by rw [hl]; exact hz) (fun j q' e => ?_) fun h' tk hd' k => ?_
  · obtain ⟨b, u, e1, e2, e3⟩ := hpr j q' e
    exact ⟨b, u, by simp [e1], e2, e3⟩
  · have hm : (s.heap.objs.size == sysModules) = false := beq_eq_false_iff_ne.mpr (Nat.ne_of_gt I.big)
    have hlen : (mergeK [] kvs).length ≤ sizeLine := Nat.le_trans (length_mergeK kvs []) (by rw [List.length_nil, Nat.zero_add, rel.length, hl]; exact hz)
    exact ⟨.ref s.heap.objs.size, upd H s.heap.objs.size (.dK (mergeK [] kvs)), I.laid (t' := tk) k (Nat.le_refl _) (show ObjOk X.prog X.w _ _ _ (.dK (mergeK [] kvs)) from ⟨hlen, hm, merged [] prs, KV.merge rel .nil, hd'⟩), rfl, q _ (I.hok.fresh (Nat.le_refl _))⟩
theorem call_dictPW (hw : Warm X) (e : X.K = K := by rfl) : CallR X (.type "dict") (rDictP K) := by subst e; exact hw.elim call_dictP call_dictPHot
end
end J

set_option Elab.async false
set_option linter.all false
set_option maxRecDepth 100000
set_option maxHeartbeats 0
open PySem L2 PyProof.Rows J
namespace L27H
def top (i : Nat) : Stmt := PySem.Challenge.pw_revokelog_k27_whole_checkpoints_amid_tra.main.body.getD i (.Pass ⟨0, 0, 0, 0⟩)
def D0 : He.DefD := ⟨("is_integer", none), "is_integer", "is_integer", defArgs (top 12), defBody (top 12), defScope (top 12), [], []⟩
def D1 : He.DefD := ⟨("is_between", none), "is_between", "is_between", defArgs (top 13), defBody (top 13), defScope (top 13), [], []⟩
def D2 : He.DefD := ⟨("is_value", none), "is_value", "is_value", defArgs (top 14), defBody (top 14), defScope (top 14), [.int 0], []⟩
def D3 : He.DefD := ⟨("Disk", some "__init__"), "__init__", "Disk.__init__", defArgs (inClass (top 15) 0), defBody (inClass (top 15) 0), defScope (inClass (top 15) 0), [], []⟩
def D4 : He.DefD := ⟨("Disk", some "check_block"), "check_block", "Disk.check_block", defArgs (inClass (top 15) 2), defBody (inClass (top 15) 2), defScope (inClass (top 15) 2), [], []⟩
def D5 : He.DefD := ⟨("Disk", some "read"), "read", "Disk.read", defArgs (inClass (top 15) 3), defBody (inClass (top 15) 3), defScope (inClass (top 15) 3), [], []⟩
def D6 : He.DefD := ⟨("Disk", some "write"), "write", "Disk.write", defArgs (inClass (top 15) 4), defBody (inClass (top 15) 4), defScope (inClass (top 15) 4), [], []⟩
def D7 : He.DefD := ⟨("Disk", some "flush"), "flush", "Disk.flush", defArgs (inClass (top 15) 5), defBody (inClass (top 15) 5), defScope (inClass (top 15) 5), [], []⟩
def D8 : He.DefD := ⟨("Disk", some "events"), "events", "Disk.events", defArgs (inClass (top 15) 8), defBody (inClass (top 15) 8), defScope (inClass (top 15) 8), [], []⟩
def D9 : He.DefD := ⟨("Disk", some "pending"), "pending", "Disk.pending", defArgs (inClass (top 15) 6), defBody (inClass (top 15) 6), defScope (inClass (top 15) 6), [], []⟩
def D10 : He.DefD := ⟨("Layout", some "__init__"), "__init__", "Layout.__init__", defArgs (inClass (top 22) 0), defBody (inClass (top 22) 0), defScope (inClass (top 22) 0), [], []⟩
def D11 : He.DefD := ⟨("Layout", some "slots"), "slots", "Layout.slots", defArgs (inClass (top 22) 1), defBody (inClass (top 22) 1), defScope (inClass (top 22) 1), [], []⟩
def D12 : He.DefD := ⟨("Layout", some "slot_block"), "slot_block", "Layout.slot_block", defArgs (inClass (top 22) 4), defBody (inClass (top 22) 4), defScope (inClass (top 22) 4), [], []⟩
def D13 : He.DefD := ⟨("Layout", some "disk_size"), "disk_size", "Layout.disk_size", defArgs (inClass (top 22) 3), defBody (inClass (top 22) 3), defScope (inClass (top 22) 3), [], []⟩
def D14 : He.DefD := ⟨("Layout", some "home_block"), "home_block", "Layout.home_block", defArgs (inClass (top 22) 5), defBody (inClass (top 22) 5), defScope (inClass (top 22) 5), [], []⟩
def D15 : He.DefD := ⟨("groups_of", none), "groups_of", "groups_of", defArgs (top 25), defBody (top 25), defScope (top 25), [], []⟩
def D16 : He.DefD := ⟨("check_homes", none), "check_homes", "check_homes", defArgs (top 26), defBody (top 26), defScope (top 26), [], []⟩
def D17 : He.DefD := ⟨("check_parts", none), "check_parts", "check_parts", defArgs (top 27), defBody (top 27), defScope (top 27), [], []⟩
def D18 : He.DefD := ⟨("records_of", none), "records_of", "records_of", defArgs (top 28), defBody (top 28), defScope (top 28), [], []⟩
def D19 : He.DefD := ⟨("Committed", some "__init__"), "__init__", "Committed.__init__", defArgs (inClass (top 33) 0), defBody (inClass (top 33) 0), defScope (inClass (top 33) 0), [], []⟩
def D20 : He.DefD := ⟨("Committed", some "forget"), "forget", "Committed.forget", defArgs (inClass (top 33) 1), defBody (inClass (top 33) 1), defScope (inClass (top 33) 1), [], []⟩
def D21 : He.DefD := ⟨("check_rule", none), "check_rule", "check_rule", defArgs (top 32), defBody (top 32), defScope (top 32), [], []⟩
def D22 : He.DefD := ⟨("Journal", some "__init__"), "__init__", "Journal.__init__", defArgs (inClass (top 34) 0), defBody (inClass (top 34) 0), defScope (inClass (top 34) 0), [], [("without", .non)]⟩
def D23 : He.DefD := ⟨("Journal", some "log"), "log", "Journal.log", defArgs (inClass (top 34) 1), defBody (inClass (top 34) 1), defScope (inClass (top 34) 1), [], []⟩
def D24 : He.DefD := ⟨("Journal", some "revoke"), "revoke", "Journal.revoke", defArgs (inClass (top 34) 2), defBody (inClass (top 34) 2), defScope (inClass (top 34) 2), [], []⟩
def D25 : He.DefD := ⟨("Journal", some "running"), "running", "Journal.running", defArgs (inClass (top 34) 3), defBody (inClass (top 34) 3), defScope (inClass (top 34) 3), [], []⟩
def D26 : He.DefD := ⟨("Journal", some "numbers"), "numbers", "Journal.numbers", defArgs (inClass (top 34) 5), defBody (inClass (top 34) 5), defScope (inClass (top 34) 5), [], []⟩
def D27 : He.DefD := ⟨("Journal", some "free_slots"), "free_slots", "Journal.free_slots", defArgs (inClass (top 34) 6), defBody (inClass (top 34) 6), defScope (inClass (top 34) 6), [], []⟩
def D28 : He.DefD := ⟨("Journal", some "tail_slot"), "tail_slot", "Journal.tail_slot", defArgs (inClass (top 34) 11), defBody (inClass (top 34) 11), defScope (inClass (top 34) 11), [], []⟩
def D29 : He.DefD := ⟨("Journal", some "flush_by"), "flush_by", "Journal.flush_by", defArgs (inClass (top 34) 8), defBody (inClass (top 34) 8), defScope (inClass (top 34) 8), [], []⟩
def D30 : He.DefD := ⟨("needed", none), "needed", "needed", defArgs (top 35), defBody (top 35), defScope (top 35), [], []⟩
def D31 : He.DefD := ⟨("Journal", some "keep"), "keep", "Journal.keep", defArgs (inClass (top 34) 10), defBody (inClass (top 34) 10), defScope (inClass (top 34) 10), [], []⟩
def D32 : He.DefD := ⟨("Journal", some "checkpoint"), "checkpoint", "Journal.checkpoint", defArgs (inClass (top 34) 12), defBody (inClass (top 34) 12), defScope (inClass (top 34) 12), [], []⟩
def D33 : He.DefD := ⟨("LogError", some "__init__"), "__init__", "LogError.__init__", defArgs (inClass (top 2) 0), defBody (inClass (top 2) 0), defScope (inClass (top 2) 0), [.str "invalid"], []⟩
def D34 : He.DefD := ⟨("NoSpace", some "__init__"), "__init__", "NoSpace.__init__", defArgs (inClass (top 7) 0), defBody (inClass (top 7) 0), defScope (inClass (top 7) 0), [], []⟩
def D35 : He.DefD := ⟨("Journal", some "commit"), "commit", "Journal.commit", defArgs (inClass (top 34) 9), defBody (inClass (top 34) 9), defScope (inClass (top 34) 9), [], []⟩
def D36 : He.DefD := ⟨("Layout", some "homes"), "homes", "Layout.homes", defArgs (inClass (top 22) 2), defBody (inClass (top 22) 2), defScope (inClass (top 22) 2), [], []⟩
def D37 : He.DefD := ⟨("Journal", some "value"), "value", "Journal.value", defArgs (inClass (top 34) 4), defBody (inClass (top 34) 4), defScope (inClass (top 34) 4), [], []⟩
def D38 : He.DefD := ⟨("Journal", some "kept"), "kept", "Journal.kept", defArgs (inClass (top 34) 7), defBody (inClass (top 34) 7), defScope (inClass (top 34) 7), [], []⟩
def D39 : He.DefD := ⟨("Disk", some "durable"), "durable", "Disk.durable", defArgs (inClass (top 15) 7), defBody (inClass (top 15) 7), defScope (inClass (top 15) 7), [], []⟩
def D40 : He.DefD := ⟨("_law_cell_at", none), "_law_cell_at", "_law_cell_at", defArgs (top 37), defBody (top 37), defScope (top 37), [], []⟩
def D41 : He.DefD := ⟨("_law_source", none), "_law_source", "_law_source", defArgs (top 38), defBody (top 38), defScope (top 38), [], []⟩
def D42 : He.DefD := ⟨("_law_draw", none), "_law_draw", "_law_draw", defArgs (top 39), defBody (top 39), defScope (top 39), [], []⟩
def D43 : He.DefD := ⟨("_law_values", none), "_law_values", "_law_values", defArgs (top 41), defBody (top 41), defScope (top 41), [], []⟩
def D44 : He.DefD := ⟨("_law_kept_right", none), "_law_kept_right", "_law_kept_right", defArgs (top 42), defBody (top 42), defScope (top 42), [], []⟩
def D45 : He.DefD := ⟨("_law_checkpoint_right", none), "_law_checkpoint_right", "_law_checkpoint_right", defArgs (top 43), defBody (top 43), defScope (top 43), [], []⟩
def D46 : He.DefD := ⟨("_law_commit", none), "_law_commit", "_law_commit", defArgs (top 44), defBody (top 44), defScope (top 44), [], []⟩
def D47 : He.DefD := ⟨("_law_step", none), "_law_step", "_law_step", defArgs (top 45), defBody (top 45), defScope (top 45), [], []⟩
def D48 : He.DefD := ⟨("law", none), "law", "law", defArgs (top 46), defBody (top 46), defScope (top 46), [], []⟩
def fn0 : List He.DefD := [D0, D1, D2, D3, D4, D5, D6, D7, D8, D9, D10, D11, D12, D13, D14, D15, D16, D17, D18, D19, D20, D21, D22, D23, D24, D25, D26, D27, D28, D29]
def fn1 : List He.DefD := [D30, D31, D32, D33, D34, D35, D36, D37, D38, D39, D40, D41, D42, D43, D44, D45, D46, D47, D48]
def fn : List He.DefD := fn0 ++ fn1
def fa0 : List Fc := [fun K => decide (PySem.W.nsIn K mainGlobals "Disk" = some (some (.ref (He.ga K "Disk")))),
  fun K => PySem.W.plainGet K (He.ga K "Disk") Str.empty,
  fun K => PySem.W.hasDictIn K (He.ga K "Disk"),
  fun K => PySem.W.plainOver K (He.ga K "Disk"),
  fun K => decide (PySem.W.findIn K (.ref (He.ga K "Disk")) "__setattr__" = some (some (.builtin "object.__setattr__"))),
  fun K => PySem.W.makesIn K (He.ga K "Disk"),
  fun K => PySem.W.keepIn K (.ref (He.ga K "Disk")),
  fun K => decide (PySem.W.findIn K (.ref (He.ga K "Disk")) "first" = some none),
  fun K => decide (PySem.W.findIn K (.ref (He.ga K "Disk")) "safe" = some none),
  fun K => decide (PySem.W.findIn K (.ref (He.ga K "Disk")) "writes" = some none),
  fun K => decide (PySem.W.findIn K (.ref (He.ga K "Disk")) "deeds" = some none),
  fun K => decide (PySem.W.nsIn K mainGlobals "Layout" = some (some (.ref (He.ga K "Layout")))),
  fun K => PySem.W.plainGet K (He.ga K "Layout") Str.empty,
  fun K => PySem.W.hasDictIn K (He.ga K "Layout"),
  fun K => PySem.W.plainOver K (He.ga K "Layout"),
  fun K => decide (PySem.W.findIn K (.ref (He.ga K "Layout")) "__setattr__" = some (some (.builtin "object.__setattr__"))),
  fun K => PySem.W.makesIn K (He.ga K "Layout"),
  fun K => PySem.W.keepIn K (.ref (He.ga K "Layout")),
  fun K => decide (PySem.W.findIn K (.ref (He.ga K "Layout")) "ring" = some none),
  fun K => decide (PySem.W.findIn K (.ref (He.ga K "Layout")) "places" = some none),
  fun K => decide (PySem.W.nsIn K mainGlobals "Committed" = some (some (.ref (He.ga K "Committed")))),
  fun K => PySem.W.plainGet K (He.ga K "Committed") Str.empty,
  fun K => PySem.W.hasDictIn K (He.ga K "Committed"),
  fun K => PySem.W.plainOver K (He.ga K "Committed"),
  fun K => decide (PySem.W.findIn K (.ref (He.ga K "Committed")) "__setattr__" = some (some (.builtin "object.__setattr__")))]
def fa1 : List Fc := [fun K => PySem.W.makesIn K (He.ga K "Committed"),
  fun K => PySem.W.keepIn K (.ref (He.ga K "Committed")),
  fun K => decide (PySem.W.findIn K (.ref (He.ga K "Committed")) "label" = some none),
  fun K => decide (PySem.W.findIn K (.ref (He.ga K "Committed")) "size" = some none),
  fun K => decide (PySem.W.findIn K (.ref (He.ga K "Committed")) "copies" = some none),
  fun K => decide (PySem.W.findIn K (.ref (He.ga K "Committed")) "revokes" = some none),
  fun K => decide (PySem.W.findIn K (.ref (He.ga K "Committed")) "left" = some none),
  fun K => decide (PySem.W.nsIn K mainGlobals "Journal" = some (some (.ref (He.ga K "Journal")))),
  fun K => PySem.W.plainGet K (He.ga K "Journal") Str.empty,
  fun K => PySem.W.hasDictIn K (He.ga K "Journal"),
  fun K => PySem.W.plainOver K (He.ga K "Journal"),
  fun K => decide (PySem.W.findIn K (.ref (He.ga K "Journal")) "__setattr__" = some (some (.builtin "object.__setattr__"))),
  fun K => PySem.W.makesIn K (He.ga K "Journal"),
  fun K => PySem.W.keepIn K (.ref (He.ga K "Journal")),
  fun K => decide (PySem.W.findIn K (.ref (He.ga K "Journal")) "plan" = some none),
  fun K => decide (PySem.W.findIn K (.ref (He.ga K "Journal")) "medium" = some none),
  fun K => decide (PySem.W.findIn K (.ref (He.ga K "Journal")) "without" = some none),
  fun K => decide (PySem.W.findIn K (.ref (He.ga K "Journal")) "next_number" = some none),
  fun K => decide (PySem.W.findIn K (.ref (He.ga K "Journal")) "head" = some none),
  fun K => decide (PySem.W.findIn K (.ref (He.ga K "Journal")) "log_kept" = some none),
  fun K => decide (PySem.W.findIn K (.ref (He.ga K "Journal")) "new_copies" = some none),
  fun K => decide (PySem.W.findIn K (.ref (He.ga K "Journal")) "new_revokes" = some none),
  fun K => decide (PySem.W.nsIn K mainGlobals "is_integer" = some (some (.ref (He.ga K "is_integer")))),
  fun K => decide (PySem.W.nsIn K mainGlobals "is_between" = some (some (.ref (He.ga K "is_between")))),
  fun K => decide (PySem.W.nsIn K mainGlobals "is_value" = some (some (.ref (He.ga K "is_value"))))]
def fa2 : List Fc := [fun K => decide (PySem.W.findIn K (.ref (He.ga K "Disk")) "__init__" = some (some (.ref (He.ma K (He.ga K "Disk") "__init__")))),
  fun K => PySem.W.isFn K (.ref (He.ma K (He.ga K "Disk") "__init__")),
  fun K => decide (PySem.W.findIn K (.ref (He.ga K "Disk")) "check_block" = some (some (.ref (He.ma K (He.ga K "Disk") "check_block")))),
  fun K => PySem.W.isFn K (.ref (He.ma K (He.ga K "Disk") "check_block")),
  fun K => decide (PySem.W.findIn K (.ref (He.ga K "Disk")) "read" = some (some (.ref (He.ma K (He.ga K "Disk") "read")))),
  fun K => PySem.W.isFn K (.ref (He.ma K (He.ga K "Disk") "read")),
  fun K => decide (PySem.W.findIn K (.ref (He.ga K "Disk")) "write" = some (some (.ref (He.ma K (He.ga K "Disk") "write")))),
  fun K => PySem.W.isFn K (.ref (He.ma K (He.ga K "Disk") "write")),
  fun K => decide (PySem.W.findIn K (.ref (He.ga K "Disk")) "flush" = some (some (.ref (He.ma K (He.ga K "Disk") "flush")))),
  fun K => PySem.W.isFn K (.ref (He.ma K (He.ga K "Disk") "flush")),
  fun K => decide (PySem.W.findIn K (.ref (He.ga K "Disk")) "events" = some (some (.ref (He.ma K (He.ga K "Disk") "events")))),
  fun K => PySem.W.isFn K (.ref (He.ma K (He.ga K "Disk") "events")),
  fun K => decide (PySem.W.findIn K (.ref (He.ga K "Disk")) "pending" = some (some (.ref (He.ma K (He.ga K "Disk") "pending")))),
  fun K => PySem.W.isFn K (.ref (He.ma K (He.ga K "Disk") "pending")),
  fun K => decide (PySem.W.findIn K (.ref (He.ga K "Layout")) "__init__" = some (some (.ref (He.ma K (He.ga K "Layout") "__init__")))),
  fun K => PySem.W.isFn K (.ref (He.ma K (He.ga K "Layout") "__init__")),
  fun K => decide (PySem.W.findIn K (.ref (He.ga K "Layout")) "slots" = some (some (.ref (He.ma K (He.ga K "Layout") "slots")))),
  fun K => PySem.W.isFn K (.ref (He.ma K (He.ga K "Layout") "slots")),
  fun K => decide (PySem.W.findIn K (.ref (He.ga K "Layout")) "slot_block" = some (some (.ref (He.ma K (He.ga K "Layout") "slot_block")))),
  fun K => PySem.W.isFn K (.ref (He.ma K (He.ga K "Layout") "slot_block")),
  fun K => decide (PySem.W.findIn K (.ref (He.ga K "Layout")) "disk_size" = some (some (.ref (He.ma K (He.ga K "Layout") "disk_size")))),
  fun K => PySem.W.isFn K (.ref (He.ma K (He.ga K "Layout") "disk_size")),
  fun K => decide (PySem.W.findIn K (.ref (He.ga K "Layout")) "home_block" = some (some (.ref (He.ma K (He.ga K "Layout") "home_block")))),
  fun K => PySem.W.isFn K (.ref (He.ma K (He.ga K "Layout") "home_block")),
  fun K => decide (PySem.W.nsIn K mainGlobals "groups_of" = some (some (.ref (He.ga K "groups_of"))))]
def fa3 : List Fc := [fun K => decide (PySem.W.nsIn K mainGlobals "check_homes" = some (some (.ref (He.ga K "check_homes")))),
  fun K => decide (PySem.W.nsIn K mainGlobals "check_parts" = some (some (.ref (He.ga K "check_parts")))),
  fun K => decide (PySem.W.nsIn K mainGlobals "records_of" = some (some (.ref (He.ga K "records_of")))),
  fun K => decide (PySem.W.findIn K (.ref (He.ga K "Committed")) "__init__" = some (some (.ref (He.ma K (He.ga K "Committed") "__init__")))),
  fun K => PySem.W.isFn K (.ref (He.ma K (He.ga K "Committed") "__init__")),
  fun K => decide (PySem.W.findIn K (.ref (He.ga K "Committed")) "forget" = some (some (.ref (He.ma K (He.ga K "Committed") "forget")))),
  fun K => PySem.W.isFn K (.ref (He.ma K (He.ga K "Committed") "forget")),
  fun K => decide (PySem.W.nsIn K mainGlobals "check_rule" = some (some (.ref (He.ga K "check_rule")))),
  fun K => decide (PySem.W.findIn K (.ref (He.ga K "Journal")) "__init__" = some (some (.ref (He.ma K (He.ga K "Journal") "__init__")))),
  fun K => PySem.W.isFn K (.ref (He.ma K (He.ga K "Journal") "__init__")),
  fun K => decide (PySem.W.findIn K (.ref (He.ga K "Journal")) "log" = some (some (.ref (He.ma K (He.ga K "Journal") "log")))),
  fun K => PySem.W.isFn K (.ref (He.ma K (He.ga K "Journal") "log")),
  fun K => decide (PySem.W.findIn K (.ref (He.ga K "Journal")) "revoke" = some (some (.ref (He.ma K (He.ga K "Journal") "revoke")))),
  fun K => PySem.W.isFn K (.ref (He.ma K (He.ga K "Journal") "revoke")),
  fun K => decide (PySem.W.findIn K (.ref (He.ga K "Journal")) "running" = some (some (.ref (He.ma K (He.ga K "Journal") "running")))),
  fun K => PySem.W.isFn K (.ref (He.ma K (He.ga K "Journal") "running")),
  fun K => decide (PySem.W.findIn K (.ref (He.ga K "Journal")) "numbers" = some (some (.ref (He.ma K (He.ga K "Journal") "numbers")))),
  fun K => PySem.W.isFn K (.ref (He.ma K (He.ga K "Journal") "numbers")),
  fun K => decide (PySem.W.findIn K (.ref (He.ga K "Journal")) "free_slots" = some (some (.ref (He.ma K (He.ga K "Journal") "free_slots")))),
  fun K => PySem.W.isFn K (.ref (He.ma K (He.ga K "Journal") "free_slots")),
  fun K => decide (PySem.W.findIn K (.ref (He.ga K "Journal")) "tail_slot" = some (some (.ref (He.ma K (He.ga K "Journal") "tail_slot")))),
  fun K => PySem.W.isFn K (.ref (He.ma K (He.ga K "Journal") "tail_slot")),
  fun K => decide (PySem.W.findIn K (.ref (He.ga K "Journal")) "flush_by" = some (some (.ref (He.ma K (He.ga K "Journal") "flush_by")))),
  fun K => PySem.W.isFn K (.ref (He.ma K (He.ga K "Journal") "flush_by")),
  fun K => decide (PySem.W.nsIn K mainGlobals "needed" = some (some (.ref (He.ga K "needed"))))]
def fa4 : List Fc := [fun K => decide (PySem.W.findIn K (.ref (He.ga K "Journal")) "keep" = some (some (.ref (He.ma K (He.ga K "Journal") "keep")))),
  fun K => PySem.W.isFn K (.ref (He.ma K (He.ga K "Journal") "keep")),
  fun K => decide (PySem.W.findIn K (.ref (He.ga K "Journal")) "checkpoint" = some (some (.ref (He.ma K (He.ga K "Journal") "checkpoint")))),
  fun K => PySem.W.isFn K (.ref (He.ma K (He.ga K "Journal") "checkpoint")),
  fun K => decide (PySem.W.findIn K (.ref (He.ga K "LogError")) "__init__" = some (some (.ref (He.ma K (He.ga K "LogError") "__init__")))),
  fun K => PySem.W.isFn K (.ref (He.ma K (He.ga K "LogError") "__init__")),
  fun K => decide (PySem.W.findIn K (.ref (He.ga K "NoSpace")) "__init__" = some (some (.ref (He.ma K (He.ga K "NoSpace") "__init__")))),
  fun K => PySem.W.isFn K (.ref (He.ma K (He.ga K "NoSpace") "__init__")),
  fun K => decide (PySem.W.findIn K (.ref (He.ga K "Journal")) "commit" = some (some (.ref (He.ma K (He.ga K "Journal") "commit")))),
  fun K => PySem.W.isFn K (.ref (He.ma K (He.ga K "Journal") "commit")),
  fun K => decide (PySem.W.findIn K (.ref (He.ga K "Layout")) "homes" = some (some (.ref (He.ma K (He.ga K "Layout") "homes")))),
  fun K => PySem.W.isFn K (.ref (He.ma K (He.ga K "Layout") "homes")),
  fun K => decide (PySem.W.findIn K (.ref (He.ga K "Journal")) "value" = some (some (.ref (He.ma K (He.ga K "Journal") "value")))),
  fun K => PySem.W.isFn K (.ref (He.ma K (He.ga K "Journal") "value")),
  fun K => decide (PySem.W.findIn K (.ref (He.ga K "Journal")) "kept" = some (some (.ref (He.ma K (He.ga K "Journal") "kept")))),
  fun K => PySem.W.isFn K (.ref (He.ma K (He.ga K "Journal") "kept")),
  fun K => decide (PySem.W.findIn K (.ref (He.ga K "Disk")) "durable" = some (some (.ref (He.ma K (He.ga K "Disk") "durable")))),
  fun K => PySem.W.isFn K (.ref (He.ma K (He.ga K "Disk") "durable")),
  fun K => decide (PySem.W.nsIn K mainGlobals "_law_cell_at" = some (some (.ref (He.ga K "_law_cell_at")))),
  fun K => decide (PySem.W.nsIn K mainGlobals "_law_source" = some (some (.ref (He.ga K "_law_source")))),
  fun K => decide (PySem.W.nsIn K mainGlobals "_law_draw" = some (some (.ref (He.ga K "_law_draw")))),
  fun K => decide (PySem.W.nsIn K mainGlobals "_law_values" = some (some (.ref (He.ga K "_law_values")))),
  fun K => decide (PySem.W.nsIn K mainGlobals "_law_kept_right" = some (some (.ref (He.ga K "_law_kept_right")))),
  fun K => decide (PySem.W.nsIn K mainGlobals "_law_checkpoint_right" = some (some (.ref (He.ga K "_law_checkpoint_right")))),
  fun K => decide (PySem.W.nsIn K mainGlobals "_law_commit" = some (some (.ref (He.ga K "_law_commit"))))]
def fa5 : List Fc := [fun K => decide (PySem.W.nsIn K mainGlobals "_law_step" = some (some (.ref (He.ga K "_law_step")))),
  fun K => decide (PySem.W.nsIn K mainGlobals "law" = some (some (.ref (He.ga K "law")))),
  fun K => (He.Fa.int "MOST_BLOCKS" 128).ok K,
  fun K => (He.Fa.int "MOST_NESTED" 8).ok K,
  fun K => (He.Fa.int "LEAST_SLOTS" 8).ok K,
  fun K => (He.Fa.int "MOST_SLOTS" 64).ok K,
  fun K => (He.Fa.int "LEAST_HOMES" 4).ok K,
  fun K => (He.Fa.int "MOST_HOMES" 32).ok K,
  fun K => (He.Fa.int "GROUP" 8).ok K,
  fun K => (He.Fa.int "RECORD_DEPTH" 1).ok K,
  fun K => decide (PySem.W.nsIn K mainGlobals "int" = some none),
  fun K => decide (PySem.W.nsIn K mainGlobals "len" = some none),
  fun K => decide (PySem.W.nsIn K mainGlobals "list" = some none),
  fun K => decide (PySem.W.nsIn K mainGlobals "range" = some none),
  fun K => decide (PySem.W.nsIn K mainGlobals "repr" = some none),
  fun K => decide (PySem.W.nsIn K mainGlobals "tuple" = some none),
  fun K => decide (PySem.W.nsIn K mainGlobals "isinstance" = some none),
  fun K => decide (PySem.W.nsIn K mainGlobals "all" = some none),
  fun K => decide (PySem.W.nsIn K mainGlobals "zip" = some none),
  fun K => decide (PySem.W.nsIn K mainGlobals "str" = some none),
  fun K => decide (PySem.W.nsIn K mainGlobals "bool" = some none),
  fun K => decide (PySem.W.nsIn K mainGlobals "enumerate" = some none),
  fun K => decide (PySem.W.nsIn K mainGlobals "dict" = some none),
  fun K => decide (PySem.W.nsIn K mainGlobals "sorted" = some none),
  fun K => decide (PySem.W.nsIn K mainGlobals "sum" = some none)]
def fa6 : List Fc := [fun K => decide (PySem.W.nsIn K mainGlobals "reversed" = some none),
  fun K => decide (PySem.W.nsIn K mainGlobals "ValueError" = some none),
  fun K => decide (PySem.W.nsIn K mainGlobals "NoSpace" = some (some (.ref (He.ga K "NoSpace")))),
  fun K => decide (PySem.W.nsIn K mainGlobals "LogError" = some (some (.ref (He.ga K "LogError")))),
  fun K => oexB K (He.ga K "NoSpace"),
  fun K => decide (PySem.W.findIn K (.ref (He.ga K "NoSpace")) "__setattr__" = some (some (.builtin "object.__setattr__"))),
  fun K => decide (PySem.W.findIn K (.ref (He.ga K "NoSpace")) "__getattribute__" = some (some (.builtin "BaseException.__getattribute__"))),
  fun K => decide (PySem.W.findIn K (.ref (He.ga K "NoSpace")) "__getattr__" = some none),
  fun K => PySem.W.keepIn K (.ref (He.ga K "NoSpace")),
  fun K => decide (PySem.W.subIn K (.ref (He.ga K "NoSpace")) (.type "BaseException") = some true),
  fun K => decide (PySem.W.typeIn K (.ref (He.ga K "NoSpace")) = some (.type "type")),
  fun K => PySem.W.hasDictIn K (He.ga K "NoSpace"),
  fun K => PySem.W.isClsIn K (He.ga K "NoSpace"),
  fun K => decide (PySem.W.subIn K (.ref (He.ga K "NoSpace")) (.ref (He.ga K "NoSpace")) = some true),
  fun K => decide (PySem.W.findIn K (.ref (He.ga K "NoSpace")) "why" = some none),
  fun K => decide (PySem.W.findIn K (.ref (He.ga K "NoSpace")) "needed" = some none),
  fun K => decide (PySem.W.findIn K (.ref (He.ga K "NoSpace")) "free" = some none),
  fun K => decide (PySem.W.typeIn K (.ref (He.ma K (He.ga K "NoSpace") "__init__")) = some (.type "function")),
  fun K => PySem.W.readsIn K (He.ga K "LogError") (.type "type"),
  fun K => decide (PySem.W.specialIn K (.ref (He.ga K "LogError")) "__getattribute__" = some (some (.builtin "type.__getattribute__"))),
  fun K => cfB (PySem.W.findCls K (.ref (He.ga K "LogError")) (.type "type") "__init__") (.ref (He.ma K (He.ga K "LogError") "__init__")),
  fun K => cfB (PySem.W.findCls K (.type "ValueError") (.type "type") "__init__") (.builtin "ValueError.__init__")]
def fb0 : List (List Fc) := [fa0, fa1, fa2, fa3, fa4, fa5, fa6]
def fa : List (List Fc) := fb0
def nm0 : List PySem.Str := ["_wall", "LogError", "BadLayout", "BadBlock", "BadValue", "BadCount", "NoSpace", "BadRule", "MOST_BLOCKS", "MOST_NESTED", "is_integer", "is_between", "is_value", "Disk", "beginning_with", "LEAST_SLOTS", "MOST_SLOTS", "LEAST_HOMES", "MOST_HOMES", "Layout", "GROUP", "groups_of", "check_homes", "check_parts", "records_of", "RULES", "RECORD_DEPTH", "check_rule", "Committed", "Journal"]
def nm1 : List PySem.Str := ["needed", "_law_cell_at", "_law_source", "_law_draw", "_law_pick", "_law_values", "_law_kept_right", "_law_checkpoint_right", "_law_commit", "_law_step"]
def names : List PySem.Str := nm0 ++ nm1
abbrev R : PySem.W.OpenRow := PySem.W.OpenLaw.row PySem.Challenge.rw_revokelog_k27_whole_checkpoints_amid_tra
abbrev hk : PySem.W.Hook := hookJ 4 fa fn
def ob (s : PySem.W.SharedT) : He.AlD := obsJG 4 fa fn (HandSHeadRun.getT s)
theorem ob_eq (s : PySem.W.SharedT) : ob s = hk.obs s.abs := obsJG_eq (HandSHeadRun.getT_eq s)
theorem run (w : World) : HandSHeadRun.RunEq R (PySem.W.view R.prog [46]) hk ob 12000 names w := by
  intro os
  kernel_rfl
end L27H

set_option Elab.async false
set_option linter.all false
set_option maxRecDepth 100000
set_option maxHeartbeats 4000000
open PySem L2 PyProof.Rows J
local macro_rules | `(tactic| walk_at "lv") => `(tactic| first
  | assumption
  | (refine J.lv_same (by assumption) ?_; walk_at "lv")
  | (refine J.lv_but (by assumption) ?_; walk_at "lv")
  | (refine J.live_of (by assumption)))
local macro_rules | `(tactic| walk_at "ne") => `(tactic| first
  | assumption
  | (apply Ne.symm; assumption)
  | (refine J.ne_live ?_ (by assumption); walk_at "lv")
  | (apply Ne.symm; refine J.ne_live ?_ (by assumption); walk_at "lv"))
local macro_rules | `(tactic| walk_at "ni") => `(tactic| first
  | assumption
  | exact List.not_mem_nil
  | (refine J.ni_cons ?_ ?_; walk_at "ne"; walk_at "ni"))
local macro_rules | `(tactic| walk_at "hp") => `(tactic| first
  | assumption
  | exact upd_same
  | (apply J.same_at; assumption; walk_at "hp")
  | (apply J.but_at; assumption; walk_at "hp"; walk_at "ni")
  | (apply J.but_tup; assumption; walk_at "hp"))
local macro_rules | `(tactic| walk_at "sq") => `(tactic| first
  | assumption
  | (apply SqL.of; walk_at "hp")
  | (apply SqT.of; walk_at "hp")
  | (apply J.same_sqL; assumption; walk_at "sq")
  | (apply J.same_sqT; assumption; walk_at "sq")
  | (apply J.but_sqT; assumption; walk_at "sq")
  | (apply J.but_sqL; assumption; walk_at "sq"; walk_at "ni"))
local macro_rules | `(tactic| walk_at "dn") => `(tactic| first
  | assumption
  | exact J.Dn.int _
  | exact J.Dn.str _
  | exact J.Dn.non
  | exact J.Dn.bl _
  | (refine J.Dn.tup (by walk_at "sq") ?_; walk_at "da")
  | (refine J.dn_same (by assumption) ?_; walk_at "dn")
  | (refine J.dn_but (by assumption) ?_ ?_; walk_at "dn"; walk_at "nis"))
local macro_rules | `(tactic| walk_at "da") => `(tactic| first
  | assumption
  | exact J.DnAll.nil
  | (refine J.DnAll.cons ?_ ?_; walk_at "dn"; walk_at "da")
  | (refine J.da_same (by assumption) ?_; walk_at "da")
  | (refine J.da_but (by assumption) ?_ ?_; walk_at "da"; walk_at "nis"))
local macro_rules | `(tactic| walk_at "nis") => `(tactic| first
  | exact J.sub_nil
  | (refine J.sub_cons ?_ ?_; walk_at "mem"; walk_at "nis"))
local macro_rules | `(tactic| walk_at "le") => `(tactic| first
  | exact J.Le.refl
  | (refine J.le_same ?_ (by assumption); walk_at "le")
  | (refine J.le_but ?_ (by assumption); walk_at "le"))
local macro_rules | `(tactic| walk_at "fr") => `(tactic| first
  | assumption
  | (refine J.fr_le ?_ (by assumption); walk_at "le"))
local macro_rules | `(tactic| walk_at "mem") => `(tactic| with_reducible first
  | exact List.mem_cons_self
  | (refine List.mem_cons_of_mem _ ?_; walk_at "mem"))
local macro_rules | `(tactic| walk_at "bc") => `(tactic| first
  | exact J.bc_nil
  | (refine J.bc_in ?_ ?_; walk_at "mem"; walk_at "bc")
  | (refine J.bc_fr ?_ ?_; walk_at "fr"; walk_at "bc"))
local macro_rules | `(tactic| walk_at "bt") => `(tactic| first
  | exact J.But.refl
  | (refine J.bt_same ?_ (by assumption); walk_at "bt")
  | (refine J.bt_but ?_ (by assumption) ?_; walk_at "bt"; walk_at "bc"))
local macro_rules | `(tactic| walk_at "sm") => `(tactic| (refine J.But.same ?_; walk_at "bt"))
local macro_rules | `(tactic| walk_at "sd") => `(tactic| first
  | assumption
  | decide
  | omega
  | (unfold CDiv; omega)
  | (unfold CPow; omega)
  | (unfold CMul; omega))
local macro_rules | `(tactic| walk_at "s") => `(tactic| with_reducible first
  | refine J.r_seq ?_
  | refine J.r_asg ?_
  | refine J.r_drop ?_
  | refine J.r_ret ?_
  | refine J.r_retN ?_
  | refine J.r_ifS ?_
  | refine J.r_next ?_
  | refine J.r_test ?_
  | refine J.r_tB ?_
  | refine J.r_exb ?_
  | refine J.r_op ?_
  | refine J.r_un ?_
  | refine J.r_var rfl ?_
  | refine J.r_c ?_
  | refine J.r_I0 ?_
  | refine J.r_addI ?_
  | refine J.r_eqI ?_
  | refine J.r_neI ?_
  | refine J.r_ltI ?_
  | refine J.r_eqS ?_
  | refine J.r_neS ?_
  | refine J.r_cons ?_
  | refine J.r_nil ?_
  | refine J.r_tup ?_
  | refine J.r_lst ?_
  | refine J.r_CB ?_
  | refine J.r_callS ?_
  | refine J.r_if ?_
  | refine J.r_and ?_
  | refine J.r_or ?_
  | refine J.r_not ?_
  | refine J.r_aug rfl ?_
  | refine J.r_iaddI ?_
  | refine J.g_name ?_
  | refine J.g_cons ?_
  | refine J.g_nil ?_
  | refine J.r_I (by walk_at "sd") ?_
  | refine J.r_mulI (by walk_at "sd") ?_
  | (apply J.r_ixL; walk_at "sq"; first | exact J.at0 | exact J.at1 | exact J.at2 | with_unfolding_all rfl)
  | (apply J.r_ixT; walk_at "sq"; first | exact J.at0 | exact J.at1 | exact J.at2 | with_unfolding_all rfl)
  | refine J.r_forL ?_
  | refine J.r_forR ?_
  | refine J.r_forR2 ?_
  | refine J.r_forE ?_
  | refine J.r_lcL ?_
  | refine J.r_bm ?_
  | (apply J.r_tyL; walk_at "sq")
  | (apply J.r_lenL; walk_at "sq")
  | refine J.r_asgG ?_
  | refine J.g_sub ?_
  | (apply J.g_tup; walk_at "sq"; with_unfolding_all rfl)
  | refine J.r_dget2 ?_
  | refine J.r_dput ?_
  | refine J.r_dget ?_
  | refine J.r_din ?_
  | refine J.r_dnin ?_
  | refine J.r_dpop2 ?_
  | refine J.r_dpop1 ?_
  | (apply J.r_isD; walk_at "hp")
  | refine J.r_max2 ?_
  | refine J.r_sl ?_
  | refine J.r_noPart ?_
  | refine J.r_part ?_
  | refine J.r_exi ?_
  | refine J.r_listItems ?_
  | refine J.r_par ?_
  | refine J.r_andV ?_
  | refine J.r_notV ?_
  | refine J.r_orV ?_
  | refine J.r_leI ?_
  | refine J.r_chain ?_
  | refine J.r_isNn ?_
  | refine J.r_notNn ?_
  | refine J.r_truB ?_
  | refine J.r_truA ?_
  | refine J.r_fld ?_
  | refine J.r_sfld ?_
  | refine J.r_sfldaug ?_
  | refine J.r_meth ?_
  | refine J.r_methS ?_
  | refine J.r_mkO ?_
  | refine J.r_ost ?_
  | refine J.r_veI ?_
  | refine J.r_lcR3 ?_
  | refine J.r_make ?_
  | refine J.r_callD ?_
  | refine J.r_kw ?_
  | refine J.r_kwAt (by with_unfolding_all rfl) (by with_unfolding_all rfl) ?_
  | refine J.r_lcZ ?_
  | refine J.r_lcT ?_
  | refine J.r_forT ?_
  | refine J.r_bm0 ?_
  | (apply J.r_fldAt; walk_at "hp"; assumption; assumption; with_unfolding_all rfl)
  | refine J.r_ex2 ?_)
local macro_rules | `(tactic| walk_at "st") => `(tactic| first
  | walk_at "s"
  | ((with_reducible refine J.r_newT (J.sz (Nat.le_of_ble_eq_true rfl)) ?_); intro _ _ _ _ _))
local macro_rules | `(tactic| walk_at "to") => `(tactic| repeat ((fail_if_success (with_reducible refine J.r_seq ?_)); walk_at "s"))

namespace L27
def top (i : Nat) : Stmt := PySem.Challenge.pw_revokelog_k27_whole_checkpoints_amid_tra.main.body.getD i (.Pass ⟨0, 0, 0, 0⟩)
structure Bl (mg : Str → Option Value) : Prop where
  int : mg "int" = none
  len : mg "len" = none
  list : mg "list" = none
  range : mg "range" = none
  repr : mg "repr" = none
  tuple : mg "tuple" = none
  isinstance : mg "isinstance" = none
  all : mg "all" = none
  zip : mg "zip" = none
  str : mg "str" = none
  bool : mg "bool" = none
  enumerate : mg "enumerate" = none
  dict : mg "dict" = none
  sorted : mg "sorted" = none
  sum : mg "sum" = none
  reversed : mg "reversed" = none
  ValueError : mg "ValueError" = none
structure Gi (mg : Str → Option Value) : Prop where
  MOST_BLOCKS : ∃ tk, mg "MOST_BLOCKS" = some (.int 128 tk)
  MOST_NESTED : ∃ tk, mg "MOST_NESTED" = some (.int 8 tk)
  LEAST_SLOTS : ∃ tk, mg "LEAST_SLOTS" = some (.int 8 tk)
  MOST_SLOTS : ∃ tk, mg "MOST_SLOTS" = some (.int 64 tk)
  LEAST_HOMES : ∃ tk, mg "LEAST_HOMES" = some (.int 4 tk)
  MOST_HOMES : ∃ tk, mg "MOST_HOMES" = some (.int 32 tk)
  GROUP : ∃ tk, mg "GROUP" = some (.int 8 tk)
  RECORD_DEPTH : ∃ tk, mg "RECORD_DEPTH" = some (.int 1 tk)
structure TDisk (K : PySem.W.Frag) (C : Addr) : Prop where
  cl : Cls K C
  n1 : NoAttr K C "first"
  n2 : NoAttr K C "safe"
  n3 : NoAttr K C "writes"
  n4 : NoAttr K C "deeds"
section
variable {P : Program} {w : World} {K : PySem.W.Frag} {mg : Str → Option Value} {base : Heap} {CDisk : Addr}
/-! ### is_integer, is_between, is_value -/
def spIsInt (K : PySem.W.Frag) : Sp := fun vs H Q _ => ∃ x S d, vs = [x] ∧ Dn K S H x d ∧ Q (.bl (intB d)) H
abbrev s_is_integer : Stmt := top 12
abbrev N_is_integer : List Str := ["value"]
theorem sc_is_integer : FnScope N_is_integer ["value"] (defScope s_is_integer) :=
  ⟨rfl, rfl, rfl, by decide +kernel, rfl, by decide +kernel, by decide +kernel⟩

theorem ok_is_integer {f : Addr} {fd : FuncData} (F : Fun K "is_integer" "is_integer" s_is_integer f fd) (B : Bl mg) :
    FnW P w K mg base 1 f fd ["value"] (spIsInt K) := by
  refine okW F sc_is_integer (fun vs H Q E h => ?_) (fun cdv A outer s H vs Q E cc pn hw hr h => ?_)
  · obtain ⟨_, _, _, rfl, _⟩ := h
    rfl
  · obtain ⟨x, S, d, rfl, hx, k⟩ := h
    have hu := hu_of hr
    have nd := sc_is_integer.nd
    refine ⟨_, (pss_one (ps_ret (pe_and (pe_callB (call_isiA (K := K)) rfl B.isinstance (by decide +kernel) (pa_cons (pv 0) (pa_cons (pe_tyN (T := "int") rfl B.int (by decide +kernel)) pa_nil))) (pe_one (pe_not (pe_callB (call_isiA (K := K)) rfl B.isinstance (by decide +kernel) (pa_cons (pv 0) (pa_cons (pe_tyN (T := "bool") rfl B.bool (by decide +kernel)) pa_nil)))))))), ?_⟩
    repeat walk_at "s"
    refine r_isInt hx ?_
    repeat walk_at "s"
    refine r_iteB (fun e => ?_) (fun e => ?_)
    · repeat walk_at "s"
      refine r_isBool hx ?_
      repeat walk_at "s"
      cases d <;> first | exact k | (simp [isIntD] at e; done)
    · cases d <;> first | exact k | (simp [isIntD] at e; done)
def spBet (K : PySem.W.Frag) : Sp := fun vs H Q _ => ∃ x S d lo hi, vs = [x, .int lo, .int hi] ∧ Dn K S H x d ∧ Q (.bl (betB d lo hi)) H
abbrev s_is_between : Stmt := top 13
abbrev N_is_between : List Str := ["value", "low", "high"]
theorem sc_is_between : FnScope N_is_between ["value", "low", "high"] (defScope s_is_between) :=
  ⟨rfl, rfl, rfl, by decide +kernel, rfl, by decide +kernel, by decide +kernel⟩

theorem ok_is_between {f : Addr} {fd : FuncData} (F : Fun K "is_between" "is_between" s_is_between f fd) (C_is_integer : ClW P w K mg base 1 "is_integer" (spIsInt K)) :
    FnW P w K mg base 2 f fd ["value", "low", "high"] (spBet K) := by
  refine okW F sc_is_between (fun vs H Q E h => ?_) (fun cdv A outer s H vs Q E cc pn hw hr h => ?_)
  · obtain ⟨_, _, _, _, _, rfl, _⟩ := h
    rfl
  · obtain ⟨x, S, d, lo, hi, rfl, hx, k⟩ := h
    have hu := hu_of hr
    have nd := sc_is_between.nd
    refine ⟨_, (pss_one (ps_ret (pe_and (pe_clW C_is_integer hw hr (by decide) (pa_cons (pv 0) pa_nil)) (pe_one (pe_chain op_le op_le (pv 1) (pv 0) (pv 2)))))), ?_⟩
    repeat walk_at "s"
    refine ⟨x, S, d, rfl, hx, ?_⟩
    repeat walk_at "s"
    refine r_iteB (fun e => ?_) (fun e => ?_)
    · obtain ⟨i, rfl⟩ : ∃ i, d = .int i := by
        cases d <;> first | exact ⟨_, rfl⟩ | (simp [intB] at e; done)
      obtain rfl := hx.int_inv
      repeat walk_at "s"
      refine r_ite (fun h1 => ?_) (fun h1 => ?_)
      · repeat walk_at "s"
        have e2 : betB (.int i) lo hi = decide (i ≤ hi) := by simp [betB, h1]
        rw [e2] at k
        exact k
      · have e2 : betB (.int i) lo hi = false := by simp [betB, h1]
        rw [e2] at k
        exact k
    · have e2 : betB d lo hi = false := by
        cases d <;> first | rfl | (simp [intB] at e; done)
      rw [e2] at k
      exact k
def spVal (K : PySem.W.Frag) (m : Nat) : Sp := fun vs H Q _ => ∃ (x : V) (S : List Addr) (d : PyData) (dep : Nat), vs = [x, .int dep] ∧ Dn K S H x d ∧ slim d = true ∧ dep ≤ 8 ∧ 9 ≤ dep + m ∧
  ∀ H', Same H H' → Q (.bl (valB d dep)) H'
abbrev s_is_value : Stmt := top 14
abbrev N_is_value : List Str := ["value", "depth", "one"]
theorem sc_is_value : FnScope N_is_value ["value", "depth"] (defScope s_is_value) :=
  ⟨rfl, rfl, rfl, by decide +kernel, rfl, by decide +kernel, by decide +kernel⟩

theorem ok_is_value {f : Addr} {fd : FuncData} {dvs : List V} {kws : List (Str × V)} (F : FunD K "is_value" "is_value" (defArgs s_is_value) (defBody s_is_value) (defScope s_is_value) dvs kws f fd) (B : Bl mg) (G : Gi mg) {m : Nat}
    (C_is_integer : ClW P w K mg base 1 "is_integer" (spIsInt K)) (C_is_value : ClW P w K mg base (m + 1) "is_value" (spVal K m)) :
    FnW P w K mg base (m + 2) f fd ["value", "depth"] (spVal K (m + 1)) := by
  refine okWD F sc_is_value (fun vs H Q E h => ?_) (fun cdv A outer s H vs Q E cc pn hw hr h => ?_)
  · obtain ⟨_, _, _, _, rfl, _⟩ := h
    rfl
  · obtain ⟨x, S, d, dep, rfl, hx, hsl, hd, hm, k⟩ := h
    have hr : L2H.RoomH (m + 1) _ := hr
    have hr1 : L2H.RoomH 1 _ := hr.mono (by omega)
    have hu := hu_of hr
    have nd := sc_is_value.nd
    refine ⟨_, (pss_cons (ps_if (pt_tru (K := K) (pe_callB (call_isiA (K := K)) rfl B.isinstance (by decide +kernel) (pa_cons (pv 0) (pa_cons (pe_tyN (T := "tuple") rfl B.tuple (by decide +kernel)) pa_nil)))) (pss_one (ps_ret (pe_and (pe_cmpR op_ltA (pv 1) (pe_gintE rfl G.MOST_NESTED) (nomark _)) (pe_one (pe_callB (call_allW (K := K) hw) rfl B.all (by decide +kernel) (pa_cons (pe_lcW (own := [("one", 2)]) (g := (gName 2)) (tt := tYes) hw nd (pi_tplW (K := K) (pv 0)) (blkOk_by (own := [("one", 2)]) (N := N_is_value) (sc := defScope s_is_value) (by decide +kernel)) (fun _ _ _ _ _ _ hw => (pg_name (i := 2) nd rfl (by first | exact Or.inl rfl | exact Or.inr rfl))) (fun _ _ _ _ _ _ hw => pts_nil) (fun _ _ _ _ _ _ hw => pe_clW C_is_value hw hr (by omega) (pa_cons (pv 2) (pa_cons (pe_op (op_addA (K := K)) (pv 1) pe_int) pa_nil)))) pa_nil)))))) pss_nil)
      (pss_one (ps_ret (pe_or (pe_clW C_is_integer hw hr (by omega) (pa_cons (pv 0) pa_nil)) (pe_one (pe_callB (call_isiA (K := K)) rfl B.isinstance (by decide +kernel) (pa_cons (pv 0) (pa_cons (pe_tyN (T := "str") rfl B.str (by decide +kernel)) pa_nil)))))))), ?_⟩
    repeat walk_at "s"
    refine r_isTup hx ?_
    repeat walk_at "s"
    refine r_iteB (fun e => ?_) (fun e => ?_)
    · obtain ⟨ds, rfl⟩ : ∃ ds, d = .tuple ds := by
        cases d <;> first | exact ⟨_, rfl⟩ | (simp [isTupD] at e; done)
      obtain ⟨a, xs, rfl, ha, hxs⟩ := hx.tup_inv
      have hlen : xs.length = ds.length := hxs.length
      have ev : valB (.tuple ds) dep = (decide (dep < 8) && valsB ds (dep + 1)) := rfl
      repeat walk_at "s"
      refine r_ite (fun hd8 => ?_) (fun hd8 => ?_)
      · have hd8' : dep < 8 := by omega
        repeat walk_at "s"
        refine lcT ha (fun l H1 hl s1 hl1 => ?_)
        refine ⟨fun j H' => But [l] H1 H' ∧ H' l = some (.lst (((ds.take j).map fun d => valB d (dep + 1)).map V.bl)), ⟨.refl, hl1⟩, ?_, ?_, ?_⟩
        · rintro j H2 hj ⟨b2, hl2⟩
          exact b2.sqT ((But.of_same (S := []) s1).sqT ha)
        · rintro j y H2 hj ⟨b2, hl2⟩
          obtain ⟨dy, hdy, hy⟩ := hxs.get hj
          obtain ⟨hz, hsl2⟩ := slim_tup hsl
          have hjl : j < xs.length := (List.getElem?_eq_some_iff.mp hj).1
          repeat walk_at "s"
          refine ⟨rfl, ?_⟩
          refine r_yes ?_
          refine r_iteT rfl ?_
          repeat walk_at "s"
          have hy2 : Dn K (l :: S) H2 y dy := ((hy.fresh hl).same s1).but b2 (by walk_at "nis")
          refine ⟨y, l :: S, dy, dep + 1, rfl, hy2, slims_mem hsl2 (List.mem_of_getElem? hdy), by omega, by omega, fun H3 s3 => ?_⟩
          refine ⟨_, s3 _ _ hl2, szl (by simp only [List.length_map, List.length_take]; omega), ?_⟩
          obtain ⟨H4, e4, b4, hl4⟩ := upd_ex (o' := .lst ((((ds.take j).map fun d => valB d (dep + 1)).map V.bl) ++ [.bl (valB dy (dep + 1))])) (s3 _ _ hl2)
          rw [e4]
          refine ⟨b2.trans ((But.of_same s3).trans b4), ?_⟩
          rw [hl4, List.take_add_one, hdy, List.map_append, List.map_append]
          rfl
        · rintro H2 ⟨b2, hl2⟩
          rw [hlen, List.take_length] at hl2
          refine ⟨l, _, rfl, .of hl2, ?_⟩
          have e2 : (ds.map fun d => valB d (dep + 1)).all id = valsB ds (dep + 1) := by
            rw [valsB_all, List.all_map]; rfl
          rw [e2]
          rw [ev, decide_eq_true hd8', Bool.true_and] at k
          exact k H2 (by walk_at "sm")
      · rw [ev, decide_eq_false (by omega), Bool.false_and] at k
        exact k H fun _ _ e => e
    · repeat walk_at "s"
      refine ⟨x, S, d, rfl, hx, ?_⟩
      repeat walk_at "s"
      refine r_iteB (fun e => ?_) (fun e => ?_)
      · repeat walk_at "s"
        have e2 : valB d dep = true := by
          cases d <;> first | rfl | (simp [intB] at *; done)
        rw [e2] at k
        exact k H fun _ _ e => e
      · repeat walk_at "s"
        refine r_isStr hx ?_
        have e2 : valB d dep = isStrD d := by
          cases d <;> first | rfl | (simp [intB, isTupD] at *; done)
        rw [← e2]
        exact k H fun _ _ e => e
end
end L27

open PySem L2 PyProof.Rows J

namespace L27
section
variable {P : Program} {w : World} {K : PySem.W.Frag} {mg : Str → Option Value} {base : Heap} {CDisk : Addr}
theorem bet_iff {i lo hi : Int} : betB (.int i) lo hi = true ↔ lo ≤ i ∧ i ≤ hi := by simp [betB]
/-! ### disks -/
def spDiskInit (K : PySem.W.Frag) (CDisk : Addr) : Sp := fun vs H Q _ => ∃ (d dx : Addr) (n : Nat), vs = [.ref d, .int n] ∧ H d = some (.ins CDisk dx []) ∧ 1 ≤ n ∧ n ≤ 128 ∧
  ∀ ls H', Fr ls H → But [d] H H' → DiskAt K CDisk H' d (d :: ls) n 0 (DM.new n) → Q .non H'
theorem rep_zeros (n : Nat) : (List.replicate n [V.int 0]).flatten = List.replicate n (V.int 0) := by
  induction n with
  | zero => rfl
  | succ n ih => rw [List.replicate_succ, List.flatten_cons, ih]; rfl
theorem dn_zeros {S : List Addr} {H : Hp} : ∀ n : Nat, DnAll K S H (List.replicate n (V.int 0)) (zeros n)
  | 0 => .nil
  | n + 1 => by
    show DnAll K S H (List.replicate (n + 1) (V.int 0)) (List.replicate (n + 1) (PyData.int 0))
    rw [List.replicate_succ, List.replicate_succ]
    exact .cons (.int _) (dn_zeros n)
theorem r_rep {H : Hp} {Q : VK} {p : Addr} {n : Nat} {xs : List V} (h : H p = some (.lst xs)) (c : n < 1000000) (c2 : xs.length * n ≤ 16777216)
    (k : ∀ l H', H l = none → Same H H' → H' l = some (.lst (List.replicate n xs).flatten) → Q (.ref l) H') : rMulA K (.ref p) (.int n) H Q := by
  refine .inr (.inl ⟨p, n, xs, rfl, rfl, h, by omega, by omega, sz c2, fun l hl => ?_⟩)
  exact k l _ hl (But.new (S := []) hl).same upd_same
abbrev s_Disk_init : Stmt := inClass (top 15) 0
abbrev N_Disk_init : List Str := ["self", "blocks"]
theorem sc_Disk_init : FnScope N_Disk_init ["self", "blocks"] (defScope s_Disk_init) :=
  ⟨rfl, rfl, rfl, by decide +kernel, rfl, by decide +kernel, by decide +kernel⟩

theorem ok_Disk_init {f : Addr} {fd : FuncData} (F : Fun K "__init__" "Disk.__init__" s_Disk_init f fd) (G : Gi mg) (T : TDisk K CDisk) (C_is_between : ClKW P w K mg base 2 "is_between" 1 ["low", "high"] (spBet K)) :
    FnW P w K mg base 3 f fd ["self", "blocks"] (spDiskInit K CDisk) := by
  refine okW F sc_Disk_init (fun vs H Q E h => ?_) (fun cdv A outer s H vs Q E cc pn hw hr h => ?_)
  · obtain ⟨_, _, _, rfl, _⟩ := h
    rfl
  · obtain ⟨d, dx, n, rfl, hd, hn1, hn2, k⟩ := h
    have hu := hu_of hr
    have nd := sc_Disk_init.nd
    obtain ⟨cl, n1, n2, n3, n4⟩ := T
    refine ⟨_, (pss_cons (ps_if (pt_not (pt_tru (K := K) (pe_clKW C_is_between hw hr (by decide) (pa_cons (pv 1) pa_nil) (pk_cons pe_int (pk_cons (pe_gintE rfl G.MOST_BLOCKS) pk_nil))))) (pss_one (ps_dead)) pss_nil)
      (pss_cons (ps_fldA (K := K) (pv 0) (pe_op (op_mulA (K := K)) (pe_lst (pa_cons pe_int pa_nil)) (pv 1)))
      (pss_cons (ps_fldA (K := K) (pv 0) (pe_op (op_mulA (K := K)) (pe_lst (pa_cons pe_int pa_nil)) (pv 1)))
      (pss_cons (ps_fldA (K := K) (pv 0) (pe_lst pa_nil))
      (pss_one (ps_fldA (K := K) (pv 0) (pe_lst pa_nil))))))), ?_⟩
    repeat walk_at "s"
    refine ⟨_, [], .int n, 1, 128, rfl, .int _, ?_⟩
    repeat walk_at "s"
    rw [bet_iff.mpr ⟨by omega, by omega⟩]
    refine r_iteF rfl ?_
    repeat walk_at "s"
    refine r_newL (sz (Nat.le_of_ble_eq_true rfl)) (fun z1 H1 hz1 s1 hz11 => ?_)
    repeat walk_at "s"
    refine r_rep hz11 (by omega) (by simp; omega) (fun l1 H2 hl1 s2 hl12 => ?_)
    rw [rep_zeros] at hl12
    repeat walk_at "s"
    refine r_setAt (by walk_at "hp") cl n1 (Nat.le_of_ble_eq_true rfl) (fun H3 b3 hd3 => ?_)
    repeat walk_at "s"
    refine r_newL (sz (Nat.le_of_ble_eq_true rfl)) (fun z2 H4 hz2 s4 hz24 => ?_)
    repeat walk_at "s"
    refine r_rep hz24 (by omega) (by simp; omega) (fun l2 H5 hl2 s5 hl25 => ?_)
    rw [rep_zeros] at hl25
    repeat walk_at "s"
    refine r_setAt (by walk_at "hp") cl n2 (Nat.le_of_ble_eq_true rfl) (fun H6 b6 hd6 => ?_)
    repeat walk_at "s"
    refine r_newL (sz (Nat.le_of_ble_eq_true rfl)) (fun l3 H7 hl3 s7 hl37 => ?_)
    repeat walk_at "s"
    refine r_setAt (by walk_at "hp") cl n3 (Nat.le_of_ble_eq_true rfl) (fun H8 b8 hd8 => ?_)
    repeat walk_at "s"
    refine r_newL (sz (Nat.le_of_ble_eq_true rfl)) (fun l4 H9 hl4 s9 hl49 => ?_)
    repeat walk_at "s"
    refine r_setAt (by walk_at "hp") cl n4 (Nat.le_of_ble_eq_true rfl) (fun H10 b10 hd10 => ?_)
    have lvd : H d ≠ none := live_of hd
    have a1 : l1 ≠ d := by walk_at "ne"
    have a2 : l2 ≠ d := by walk_at "ne"
    have a3 : l3 ≠ d := by walk_at "ne"
    have a4 : l4 ≠ d := by walk_at "ne"
    have f1 : H10 l1 = some (.lst (List.replicate n (V.int 0))) := by walk_at "hp"
    have f2 : H10 l2 = some (.lst (List.replicate n (V.int 0))) := by walk_at "hp"
    have f3 : H10 l3 = some (.lst []) := by walk_at "hp"
    have f4 : H10 l4 = some (.lst []) := by walk_at "hp"
    have d12 : l1 ≠ l2 := by walk_at "ne"
    have d13 : l1 ≠ l3 := by walk_at "ne"
    have d14 : l1 ≠ l4 := by walk_at "ne"
    have d23 : l2 ≠ l3 := by walk_at "ne"
    have d24 : l2 ≠ l4 := by walk_at "ne"
    have d34 : l3 ≠ l4 := by walk_at "ne"
    refine k [l1, l2, l3, l4] H10 ?_ (by walk_at "bt") ⟨DOk.new hn1 hn2, dx, l1, l2, l3, l4, _, _, _, _, rfl, ?_, hd10, f1, f2, f3, f4, dn_zeros n, dn_zeros n, .nil, .nil⟩
    · intro t ht
      simp only [List.mem_cons, List.not_mem_nil, or_false] at ht
      rcases ht with rfl | rfl | rfl | rfl <;> walk_at "fr"
    · simp only [List.nodup_cons, List.mem_cons, List.not_mem_nil, or_false, not_or, not_false_eq_true, List.nodup_nil, and_true]
      exact ⟨⟨a1.symm, a2.symm, a3.symm, a4.symm⟩, ⟨d12, d13, d14⟩, ⟨d23, d24⟩, d34⟩
def spCheck (K : PySem.W.Frag) (CDisk : Addr) : Sp := fun vs H Q _ => ∃ (d : Addr) (fd : List Addr) (n m : Nat) (D : DM) (b : Int), vs = [.ref d, .int b] ∧ DiskAt K CDisk H d fd n m D ∧ 0 ≤ b ∧ b < n ∧ Q .non H
abbrev s_Disk_check_block : Stmt := inClass (top 15) 2
abbrev N_Disk_check_block : List Str := ["self", "block"]
theorem sc_Disk_check_block : FnScope N_Disk_check_block ["self", "block"] (defScope s_Disk_check_block) :=
  ⟨rfl, rfl, rfl, by decide +kernel, rfl, by decide +kernel, by decide +kernel⟩

theorem ok_Disk_check {f : Addr} {fd : FuncData} (F : Fun K "check_block" "Disk.check_block" s_Disk_check_block f fd) (B : Bl mg) (T : TDisk K CDisk) (C_is_between : ClKW P w K mg base 2 "is_between" 1 ["low", "high"] (spBet K)) :
    FnW P w K mg base 3 f fd ["self", "block"] (spCheck K CDisk) := by
  refine okW F sc_Disk_check_block (fun vs H Q E h => ?_) (fun cdv A outer s H vs Q E cc pn hw hr h => ?_)
  · obtain ⟨_, _, _, _, _, _, rfl, _⟩ := h
    rfl
  · obtain ⟨d, fd, n, m, D, b, rfl, ⟨ok, dx, l1, l2, l3, l4, x1, x2, x3, x4, rfl, hnd, h0, h1, h2, h3, h4, v1, v2, v3, v4⟩, hb0, hb1, k⟩ := h
    have hu := hu_of hr
    have nd := sc_Disk_check_block.nd
    obtain ⟨cl, n1, n2, n3, n4⟩ := T
    refine ⟨_, (pss_one (ps_if (pt_not (pt_tru (K := K) (pe_clKW C_is_between hw hr (by decide) (pa_cons (pv 1) pa_nil) (pk_cons pe_int (pk_cons (pe_op op_sub (pe_callB (call_lenA (K := K)) rfl B.len PySem.boot_len (pa_cons (pe_fldA (K := K) (pv 0)) pa_nil)) pe_int) pk_nil))))) (pss_one (ps_dead)) pss_nil)), ?_⟩
    repeat walk_at "s"
    have e : x1.length = n := by rw [v1.length, ok.fl]
    refine ⟨_, [], .int b, 0, _, rfl, .int _, ?_⟩
    rw [bet_iff.mpr ⟨hb0, by omega⟩]
    repeat walk_at "s"
    refine r_iteF rfl ?_
    repeat walk_at "s"
    exact k
def spRead (K : PySem.W.Frag) (CDisk : Addr) : Sp := fun vs H Q _ => ∃ (d : Addr) (fd : List Addr) (n m : Nat) (D : DM) (b : Int), vs = [.ref d, .int b] ∧ DiskAt K CDisk H d fd n m D ∧ 0 ≤ b ∧ b < n ∧
  ∀ v, Dn K [] H v (D.read b) → Q v H
theorem wr_inv {S : List Addr} {H : Hp} {v : V} {u : Int × PyData} (h : Dn K S H v (dWr u)) : ∃ p x, v = .ref p ∧ SqT K H p [.int u.1, x] ∧ Dn K S H x u.2 := by
  obtain ⟨p, xs, rfl, h1, h2⟩ := h.tup_inv
  obtain ⟨n, _, rfl, h3, h4⟩ := h2.cons_inv
  obtain ⟨x, _, rfl, h5, h6⟩ := h4.cons_inv
  obtain rfl := h6.nil_inv
  obtain rfl := h3.int_inv
  exact ⟨p, x, rfl, h1, h5⟩
theorem map_getG {α β : Type} {f : α → β} {l : List α} {i : Nat} {d : β} (h : (l.map f)[i]? = some d) : ∃ x, l[i]? = some x ∧ d = f x := by
  rw [List.getElem?_map] at h
  obtain ⟨x, h1, h2⟩ := Option.map_eq_some_iff.mp h
  exact ⟨x, h1, h2.symm⟩
theorem foldl_takeG {α β : Type} {f : β → α → β} {b : β} {l : List α} {i : Nat} {x : α} (h : l[i]? = some x) : (l.take (i + 1)).foldl f b = f ((l.take i).foldl f b) x := by
  rw [List.take_add_one, h, List.foldl_append]; rfl
abbrev s_Disk_read : Stmt := inClass (top 15) 3
abbrev N_Disk_read : List Str := ["self", "block", "newest", "place", "value"]
theorem sc_Disk_read : FnScope N_Disk_read ["self", "block"] (defScope s_Disk_read) :=
  ⟨rfl, rfl, rfl, by decide +kernel, rfl, by decide +kernel, by decide +kernel⟩

theorem ok_Disk_read {f : Addr} {fd : FuncData} (F : Fun K "read" "Disk.read" s_Disk_read f fd) (T : TDisk K CDisk) (M_Disk_check_block : MetW P w K mg base 3 CDisk "check_block" (spCheck K CDisk) []) :
    FnW P w K mg base 4 f fd ["self", "block"] (spRead K CDisk) := by
  refine okW F sc_Disk_read (fun vs H Q E h => ?_) (fun cdv A outer s H vs Q E cc pn hw hr h => ?_)
  · obtain ⟨_, _, _, _, _, _, rfl, _⟩ := h
    rfl
  · obtain ⟨d, fd, n, m, D, b, rfl, hD, hb0, hb1, k⟩ := h
    obtain ⟨ok, dx, l1, l2, l3, l4, x1, x2, x3, x4, rfl, hnd, h0, h1, h2, h3, h4, v1, v2, v3, v4⟩ := id hD
    have hu := hu_of hr
    have nd := sc_Disk_read.nd
    obtain ⟨cl, n1, n2, n3, n4⟩ := T
    refine ⟨_, (pss_cons (ps_expr (pe_mtW M_Disk_check_block hw hr (by decide) (pv 0) (pa_cons (pv 1) pa_nil)))
      (pss_cons (ps_set (i := 2) nd rfl (by first | exact Or.inl rfl | exact Or.inr rfl) (pe_ix (ix_any (K := K)) (pe_fldA (K := K) (pv 0)) (pv 1) (fun _ _ => rfl)))
      (pss_cons (ps_forW PassesOwn.never hw (pi_lstW (K := K) (pe_fldA (K := K) (pv 0))) (pg_tplW (K := K) (n := 2) hw (pgs_cons (pg_name (i := 3) nd rfl (by first | exact Or.inl rfl | exact Or.inr rfl)) (pgs_cons (pg_name (i := 4) nd rfl (by first | exact Or.inl rfl | exact Or.inr rfl)) pgs_nil)))
      (pss_one (ps_if (pt_cmpR (op_eqA (K := K) hr.units) (pv 3) (pv 1) (nomark _)) (pss_one (ps_set (i := 2) nd rfl (by first | exact Or.inl rfl | exact Or.inr rfl) (pv 4))) pss_nil)))
      (pss_one (ps_ret (pv 2)))))), ?_⟩
    repeat walk_at "s"
    refine r_methAt h0 (by with_unfolding_all rfl) ?_
    repeat walk_at "s"
    refine ⟨d, _, n, m, D, b, rfl, hD, hb0, hb1, ?_⟩
    repeat walk_at "s"
    obtain ⟨bn, rfl⟩ := Int.eq_ofNat_of_zero_le hb0
    have e2 : x2.length = n := by rw [v2.length, ok.sl]
    have hbl : bn < x2.length := by omega
    refine r_ixL (.of h2) (atI_nat (List.getElem?_eq_getElem hbl)) ?_
    repeat walk_at "s"
    obtain ⟨dd, hdd, hdn⟩ := v2.get (List.getElem?_eq_getElem hbl)
    refine forL (.of h3) (fun i σ H' => ∃ v o3 o4, σ = [some (.ref d), some (.int bn), some v, o3, o4] ∧ H' = H ∧ Dn K [] H v (lastW (D.writes.take i) bn dd))
      ⟨_, _, _, rfl, rfl, hdn⟩ ?_ ?_ ?_
    · rintro i σ H' hi ⟨v, o3, o4, rfl, rfl, hv⟩
      exact .of h3
    · rintro i x σ H' hi ⟨v, o3, o4, rfl, rfl, hv⟩
      obtain ⟨du, hdu, hu2⟩ := v3.get hi
      obtain ⟨u, hu1, rfl⟩ := map_getG hdu
      obtain ⟨p, y, rfl, hp, hy⟩ := wr_inv hu2
      have step : lastW (D.writes.take (i + 1)) bn dd = if u.1 = bn then u.2 else lastW (D.writes.take i) bn dd := foldl_takeG hu1
      repeat walk_at "s"
      refine r_ite (fun e => ?_) (fun e => ?_)
      · repeat walk_at "s"
        refine ⟨_, _, _, rfl, rfl, ?_⟩
        rw [step, if_pos e]; exact hy
      · repeat walk_at "s"
        refine ⟨_, _, _, rfl, rfl, ?_⟩
        rw [step, if_neg e]; exact hv
    · rintro σ H' ⟨v, o3, o4, rfl, rfl, hv⟩
      have e3 : x3.length = D.writes.length := by rw [v3.length, List.length_map]
      rw [e3, List.take_length] at hv
      repeat walk_at "s"
      refine k v ?_
      have e4 : dd = D.safe.getD ((bn : Int)).toNat .none := by
        rw [List.getD_eq_getElem?_getD, Int.toNat_natCast, hdd]; rfl
      unfold DM.read
      rw [← e4]; exact hv
end
end L27

open PySem L2 PyProof.Rows J

namespace L27
section
variable {P : Program} {w : World} {K : PySem.W.Frag} {mg : Str → Option Value} {base : Heap} {CDisk : Addr}
def spWrite (K : PySem.W.Frag) (CDisk : Addr) : Sp := fun vs H Q _ => ∃ (d : Addr) (fd : List Addr) (n m : Nat) (D : DM) (b : Int) (v : V) (S : List Addr) (dv : PyData), vs = [.ref d, .int b, v] ∧ DiskAt K CDisk H d fd n m D ∧ m < 1000000 ∧ 0 ≤ b ∧ b < n ∧
  Dn K S H v dv ∧ blockB dv = true ∧ ∀ H', But fd H H' → DiskAt K CDisk H' d fd n (m + 1) (D.write b dv) → Q .non H'
abbrev s_Disk_write : Stmt := inClass (top 15) 4
abbrev N_Disk_write : List Str := ["self", "block", "value"]
theorem sc_Disk_write : FnScope N_Disk_write ["self", "block", "value"] (defScope s_Disk_write) :=
  ⟨rfl, rfl, rfl, by decide +kernel, rfl, by decide +kernel, by decide +kernel⟩

theorem ok_Disk_write {f : Addr} {fd : FuncData} (F : Fun K "write" "Disk.write" s_Disk_write f fd) (T : TDisk K CDisk) (M_Disk_check_block : MetW P w K mg base 3 CDisk "check_block" (spCheck K CDisk) [])
    (D_is_value : CalW P w K mg base 11 "is_value" (spVal K 9) [.int 0]) :
    FnW P w K mg base 12 f fd ["self", "block", "value"] (spWrite K CDisk) := by
  refine okW F sc_Disk_write (fun vs H Q E h => ?_) (fun cdv A outer s H vs Q E cc pn hw hr h => ?_)
  · obtain ⟨_, _, _, _, _, _, _, _, _, rfl, _⟩ := h
    rfl
  · obtain ⟨d, fd, n, m, D, b, v, S, dv, rfl, hD, hm, hb0, hb1, hv, hbl, k⟩ := h
    obtain ⟨ok, dx, l1, l2, l3, l4, x1, x2, x3, x4, rfl, hnd, h0, h1, h2, h3, h4, v1, v2, v3, v4⟩ := id hD
    have hu := hu_of hr
    have nd := sc_Disk_write.nd
    obtain ⟨cl, n1, n2, n3, n4⟩ := T
    simp only [List.nodup_cons, List.mem_cons, List.not_mem_nil, or_false, not_or, not_false_eq_true, List.nodup_nil, and_true] at hnd
    obtain ⟨⟨a1, a2, a3, a4⟩, ⟨a12, a13, a14⟩, ⟨a23, a24⟩, a34⟩ := hnd
    have hval := blockB_val hbl
    have hsl := blockB_slim hbl
    have nlv := blockB_nol hbl
    have wl : x3.length ≤ m := by rw [v3.length, List.length_map]; exact Nat.le_trans ok.wl ok.dl
    have dl : x4.length ≤ m := by rw [v4.length, List.length_map]; exact ok.dl
    refine ⟨_, (pss_cons (ps_expr (pe_mtW M_Disk_check_block hw hr (by decide) (pv 0) (pa_cons (pv 1) pa_nil)))
      (pss_cons (ps_if (pt_not (pt_tru (K := K) (pe_cldW D_is_value hw hr (by decide) (pa_cons (pv 2) pa_nil)))) (pss_one (ps_dead)) pss_nil)
      (pss_cons (ps_expr (pe_bm PySem.F.plainAttrs_list PySem.F.slot_list_append PySem.F.type_list_append mt_append (pe_fldA (K := K) (pv 0)) (pa_cons (pe_tup (pa_cons (pv 1) (pa_cons (pv 2) pa_nil))) pa_nil)))
      (pss_one (ps_expr (pe_bm PySem.F.plainAttrs_list PySem.F.slot_list_append PySem.F.type_list_append mt_append (pe_fldA (K := K) (pv 0)) (pa_cons (pe_tup (pa_cons pe_str (pa_cons (pv 1) (pa_cons (pv 2) pa_nil)))) pa_nil))))))), ?_⟩
    repeat walk_at "s"
    refine r_methAt h0 (by with_unfolding_all rfl) ?_
    repeat walk_at "s"
    refine ⟨d, _, n, m, D, b, rfl, hD, hb0, hb1, ?_⟩
    repeat walk_at "s"
    refine ⟨v, S, dv, 0, rfl, hv, hsl, by decide, by decide, fun H1 s1 => ?_⟩
    rw [hval]
    repeat walk_at "s"
    refine r_iteF rfl ?_
    repeat walk_at "s"
    refine r_newT (sz (Nat.le_of_ble_eq_true rfl)) (fun T1 H2 hT1 s2 hT12 => ?_)
    repeat walk_at "s"
    have h32 : H2 l3 = some (.lst x3) := by walk_at "hp"
    refine r_app h32 (szl (by omega)) (fun H3 b3 hl33 => ?_)
    repeat walk_at "s"
    refine r_newT (sz (Nat.le_of_ble_eq_true rfl)) (fun T2 H4 hT2 s4 hT24 => ?_)
    repeat walk_at "s"
    have h44 : H4 l4 = some (.lst x4) := by walk_at "hp"
    refine r_app h44 (szl (by omega)) (fun H5 b5 hl45 => ?_)
    repeat walk_at "s"
    have v2' : Dn K [] H2 v dv := hv.nlb nlv ((But.of_same (S := []) s1).trans (But.of_same s2))
    have v5' : Dn K [] H5 v dv := v2'.nlb nlv (show But [l3, l4] H2 H5 by walk_at "bt")
    have t15 : SqT K H5 T1 [.int b, v] := by walk_at "sq"
    have t25 : SqT K H5 T2 [.str "write", .int b, v] := by walk_at "sq"
    have f0 : H5 d = some (.ins CDisk dx (diskF l1 l2 l3 l4)) := by walk_at "hp"
    have f1 : H5 l1 = some (.lst x1) := by walk_at "hp"
    have f2 : H5 l2 = some (.lst x2) := by walk_at "hp"
    have f3 : H5 l3 = some (.lst (x3 ++ [.ref T1])) := by walk_at "hp"
    have bAll : But [d, l1, l2, l3, l4] H H5 := by walk_at "bt"
    refine k H5 bAll ⟨ok.write hb0 hb1 hbl, dx, l1, l2, l3, l4, _, _, _, _, rfl, ?_, f0, f1, f2, f3, hl45, v1.nlb ok.nl1 bAll, v2.nlb ok.nl2 bAll, ?_, ?_⟩
    · simp only [List.nodup_cons, List.mem_cons, List.not_mem_nil, or_false, not_or, not_false_eq_true, List.nodup_nil, and_true]
      exact ⟨⟨a1, a2, a3, a4⟩, ⟨a12, a13, a14⟩, ⟨a23, a24⟩, a34⟩
    · have e : (D.write b dv).writes.map dWr = D.writes.map dWr ++ [dWr (b, dv)] := by simp [DM.write]
      rw [e]
      exact (v3.nlb ok.nl3 bAll).snoc (.tup t15 (.cons (.int _) (.one v5')))
    · have e : (D.write b dv).deeds.map dEv = D.deeds.map dEv ++ [dEv (some (b, dv))] := by simp [DM.write]
      rw [e]
      exact (v4.nlb ok.nl4 bAll).snoc (.tup t25 (.cons (.str _) (.cons (.int _) (.one v5'))))
def spFlush (K : PySem.W.Frag) (CDisk : Addr) : Sp := fun vs H Q _ => ∃ (d : Addr) (fd : List Addr) (n m : Nat) (D : DM), vs = [.ref d] ∧ DiskAt K CDisk H d fd n m D ∧ m < 1000000 ∧
  ∀ H', But fd H H' → DiskAt K CDisk H' d fd n (m + 1) D.flush → Q .non H'
theorem DnAll.set {S : List Addr} {H : Hp} : ∀ {xs : List V} {ds : List PyData} {v : V} {d : PyData} (i : Nat), DnAll K S H xs ds → Dn K S H v d → DnAll K S H (xs.set i v) (ds.set i d)
  | _, _, _, _, _, .nil, _ => .nil
  | _, _, _, _, 0, .cons _ t, h => .cons h t
  | _, _, _, _, i + 1, .cons h0 t, h => .cons h0 (DnAll.set i t h)
theorem noLs_set {xs : List PyData} {i : Nat} {d : PyData} (h : noLs xs = true) (hd : noL d = true) : noLs (xs.set i d) = true :=
  noLs_all.mpr fun x hx => by
    rcases List.mem_or_eq_of_mem_set hx with hx | hx
    · exact noLs_all.mp h x hx
    · rw [hx]; exact hd
theorem ixN_nat {n i : Nat} (h : i < n) : ixN n (i : Int) = some i := by
  simp [ixN, h]
theorem r_clear {H : Hp} {Q : VK} {l : Addr} {xs : List V} (h : H l = some (.lst xs)) (k : ∀ H', But [l] H H' → H' l = some (.lst []) → Q .non H') : rClear (.ref l) [] H Q :=
  ⟨l, xs, rfl, rfl, h, k _ (But.write h (fun z => z) (by simp)) upd_same⟩
abbrev s_Disk_flush : Stmt := inClass (top 15) 5
abbrev N_Disk_flush : List Str := ["self", "block", "value"]
theorem sc_Disk_flush : FnScope N_Disk_flush ["self"] (defScope s_Disk_flush) :=
  ⟨rfl, rfl, rfl, by decide +kernel, rfl, by decide +kernel, by decide +kernel⟩

theorem ok_Disk_flush {f : Addr} {fd : FuncData} (F : Fun K "flush" "Disk.flush" s_Disk_flush f fd) (T : TDisk K CDisk) :
    FnW P w K mg base 1 f fd ["self"] (spFlush K CDisk) := by
  refine okW F sc_Disk_flush (fun vs H Q E h => ?_) (fun cdv A outer s H vs Q E cc pn hw hr h => ?_)
  · obtain ⟨_, _, _, _, _, rfl, _⟩ := h
    rfl
  · obtain ⟨d, fd, n, m, D, rfl, hD, hm, k⟩ := h
    obtain ⟨ok, dx, l1, l2, l3, l4, x1, x2, x3, x4, rfl, hnd, h0, h1, h2, h3, h4, v1, v2, v3, v4⟩ := id hD
    have hu := hu_of hr
    have nd := sc_Disk_flush.nd
    obtain ⟨cl, n1, n2, n3, n4⟩ := T
    simp only [List.nodup_cons, List.mem_cons, List.not_mem_nil, or_false, not_or, not_false_eq_true, List.nodup_nil, and_true] at hnd
    obtain ⟨⟨a1, a2, a3, a4⟩, ⟨a12, a13, a14⟩, ⟨a23, a24⟩, a34⟩ := hnd
    have dl : x4.length ≤ m := by rw [v4.length, List.length_map]; exact ok.dl
    refine ⟨_, (pss_cons (ps_forW PassesOwn.never hw (pi_lstW (K := K) (pe_fldA (K := K) (pv 0))) (pg_tplW (K := K) (n := 2) hw (pgs_cons (pg_name (i := 1) nd rfl (by first | exact Or.inl rfl | exact Or.inr rfl)) (pgs_cons (pg_name (i := 2) nd rfl (by first | exact Or.inl rfl | exact Or.inr rfl)) pgs_nil)))
      (pss_one (ps_asg (pv 2) (pg_sub (pe_fldA (K := K) (pv 0)) (pv 1) set_list))))
      (pss_cons (ps_expr (pe_bm0 PySem.F.plainAttrs_list PySem.F.slot_list_clear PySem.F.type_list_clear mt_clear (pe_fldA (K := K) (pv 0))))
      (pss_one (ps_expr (pe_bm PySem.F.plainAttrs_list PySem.F.slot_list_append PySem.F.type_list_append mt_append (pe_fldA (K := K) (pv 0)) (pa_cons (pe_tup (pa_cons pe_str pa_nil)) pa_nil)))))), ?_⟩
    repeat walk_at "s"
    have nlw : ∀ u ∈ D.writes, noL u.2 = true := fun u hu => blockB_nol (ok.wv u hu).2.2
    refine forL (.of h3) (fun i σ H' => ∃ o1 o2 ys, σ = [some (.ref d), o1, o2] ∧ But [l2] H H' ∧ H' l2 = some (.lst ys) ∧ DnAll K [] H' ys (putAll (D.writes.take i) D.safe))
      ⟨_, _, _, rfl, .refl, h2, v2⟩ ?_ ?_ ?_
    · rintro i σ H1 hi ⟨o1, o2, ys, rfl, b1, hl2, hys⟩
      exact .of (b1.at h3 (by walk_at "ni"))
    · rintro i x σ H1 hi ⟨o1, o2, ys, rfl, b1, hl2, hys⟩
      obtain ⟨du, hdu, hu2⟩ := v3.get hi
      obtain ⟨u, hu1, rfl⟩ := map_getG hdu
      obtain ⟨p, y, rfl, hp, hy⟩ := wr_inv hu2
      have hum := List.mem_of_getElem? hu1
      obtain ⟨hb0, hb1, hvv⟩ := ok.wv u hum
      obtain ⟨bn, hbn⟩ := Int.eq_ofNat_of_zero_le hb0
      have step : putAll (D.writes.take (i + 1)) D.safe = (putAll (D.writes.take i) D.safe).set u.1.toNat u.2 := foldl_takeG hu1
      have yl : ys.length = n := by rw [hys.length, putAll_length, ok.sl]
      repeat walk_at "s"
      rw [hbn]
      refine s_lst hl2 (ixN_nat (by omega)) (fun H2 b2 hl22 => ?_)
      refine ⟨_, _, _, rfl, b1.trans b2, hl22, ?_⟩
      rw [step, hbn, Int.toNat_natCast]
      have nls : noLs (putAll (D.writes.take i) D.safe) = true := noLs_all.mpr fun z hz => by
        rcases putAll_mem hz with hz | ⟨q, hq, rfl⟩
        · exact blockB_nol (ok.sv z hz)
        · exact nlw q (List.mem_of_mem_take hq)
      exact DnAll.set bn (hys.nlb nls b2) (hy.nlb (nlw u hum) (b1.trans b2))
    · rintro σ H1 ⟨o1, o2, ys, rfl, b1, hl2, hys⟩
      have e3 : x3.length = D.writes.length := by rw [v3.length, List.length_map]
      rw [e3, List.take_length] at hys
      repeat walk_at "s"
      have h31 : H1 l3 = some (.lst x3) := by walk_at "hp"
      refine r_clear h31 (fun H2 b2 hl32 => ?_)
      repeat walk_at "s"
      refine r_newT (sz (Nat.le_of_ble_eq_true rfl)) (fun T2 H3 hT2 s3 hT23 => ?_)
      repeat walk_at "s"
      have h43 : H3 l4 = some (.lst x4) := by walk_at "hp"
      refine r_app h43 (szl (by omega)) (fun H4 b4 hl44 => ?_)
      repeat walk_at "s"
      have t25 : SqT K H4 T2 [.str "flush"] := by walk_at "sq"
      have f0 : H4 d = some (.ins CDisk dx (diskF l1 l2 l3 l4)) := by walk_at "hp"
      have f1 : H4 l1 = some (.lst x1) := by walk_at "hp"
      have f2 : H4 l2 = some (.lst ys) := by walk_at "hp"
      have f3 : H4 l3 = some (.lst []) := by walk_at "hp"
      have b14 : But [l3, l4] H1 H4 := by walk_at "bt"
      have bAll : But [d, l1, l2, l3, l4] H H4 := (b1.sub (by simp)).trans (b14.sub (by simp))
      have okf := ok.flush
      refine k H4 bAll ⟨okf, dx, l1, l2, l3, l4, _, _, _, _, rfl, ?_, f0, f1, f2, f3, hl44, v1.nlb ok.nl1 bAll, hys.nlb okf.nl2 b14, .nil, ?_⟩
      · simp only [List.nodup_cons, List.mem_cons, List.not_mem_nil, or_false, not_or, not_false_eq_true, List.nodup_nil, and_true]
        exact ⟨⟨a1, a2, a3, a4⟩, ⟨a12, a13, a14⟩, ⟨a23, a24⟩, a34⟩
      · have e : D.flush.deeds.map dEv = D.deeds.map dEv ++ [dEv none] := by simp [DM.flush]
        rw [e]
        exact (v4.nlb ok.nl4 bAll).snoc (.tup t25 (.one (.str _)))
def spCopyOf (K : PySem.W.Frag) (CDisk : Addr) (g : DM → List PyData) : Sp := fun vs H Q _ => ∃ (d : Addr) (fd : List Addr) (n m : Nat) (D : DM), vs = [.ref d] ∧ DiskAt K CDisk H d fd n m D ∧
  ∀ l xs H', H l = none → Same H H' → H' l = some (.lst xs) → DnAll K [] H' xs (g D) → Q (.ref l) H'
abbrev s_Disk_durable : Stmt := inClass (top 15) 7
abbrev N_Disk_durable : List Str := ["self"]
theorem sc_Disk_durable : FnScope N_Disk_durable ["self"] (defScope s_Disk_durable) :=
  ⟨rfl, rfl, rfl, by decide +kernel, rfl, by decide +kernel, by decide +kernel⟩

theorem ok_Disk_durable {f : Addr} {fd : FuncData} (F : Fun K "durable" "Disk.durable" s_Disk_durable f fd) (B : Bl mg) (T : TDisk K CDisk) :
    FnW P w K mg base 1 f fd ["self"] (spCopyOf K CDisk DM.safe) := by
  refine okW F sc_Disk_durable (fun vs H Q E h => ?_) (fun cdv A outer s H vs Q E cc pn hw hr h => ?_)
  · obtain ⟨_, _, _, _, _, rfl, _⟩ := h
    rfl
  · obtain ⟨d, fd, n, m, D, rfl, ⟨ok, dx, l1, l2, l3, l4, x1, x2, x3, x4, rfl, hnd, h0, h1, h2, h3, h4, v1, v2, v3, v4⟩, k⟩ := h
    have nd := sc_Disk_durable.nd
    obtain ⟨cl, n1, n2, n3, n4⟩ := T
    refine ⟨_, (pss_one (ps_ret (pe_callTy (call_listA (K := K)) rfl B.list (by decide +kernel) (pa_cons (pe_fldA (K := K) (pv 0)) pa_nil)))), ?_⟩
    repeat walk_at "s"
    refine r_listL (.of h2) (fun l H1 hl s1 hl1 => ?_)
    exact k l x2 H1 hl s1 hl1 (v2.same s1)
abbrev s_Disk_events : Stmt := inClass (top 15) 8
abbrev N_Disk_events : List Str := ["self"]
theorem sc_Disk_events : FnScope N_Disk_events ["self"] (defScope s_Disk_events) :=
  ⟨rfl, rfl, rfl, by decide +kernel, rfl, by decide +kernel, by decide +kernel⟩

theorem ok_Disk_events {f : Addr} {fd : FuncData} (F : Fun K "events" "Disk.events" s_Disk_events f fd) (B : Bl mg) (T : TDisk K CDisk) :
    FnW P w K mg base 1 f fd ["self"] (spCopyOf K CDisk fun D => D.deeds.map dEv) := by
  refine okW F sc_Disk_events (fun vs H Q E h => ?_) (fun cdv A outer s H vs Q E cc pn hw hr h => ?_)
  · obtain ⟨_, _, _, _, _, rfl, _⟩ := h
    rfl
  · obtain ⟨d, fd, n, m, D, rfl, ⟨ok, dx, l1, l2, l3, l4, x1, x2, x3, x4, rfl, hnd, h0, h1, h2, h3, h4, v1, v2, v3, v4⟩, k⟩ := h
    have nd := sc_Disk_events.nd
    obtain ⟨cl, n1, n2, n3, n4⟩ := T
    refine ⟨_, (pss_one (ps_ret (pe_callTy (call_listA (K := K)) rfl B.list (by decide +kernel) (pa_cons (pe_fldA (K := K) (pv 0)) pa_nil)))), ?_⟩
    repeat walk_at "s"
    refine r_listL (.of h4) (fun l H1 hl s1 hl1 => ?_)
    exact k l x4 H1 hl s1 hl1 (v4.same s1)
end
end L27

open PySem L2 PyProof.Rows J

namespace L27
structure TLay (K : PySem.W.Frag) (C : Addr) : Prop where
  cl : Cls K C
  n1 : NoAttr K C "ring"
  n2 : NoAttr K C "places"
def layF (s h : Nat) : List (Str × V) := [("ring", .int s), ("places", .int h)]
structure LayAt (C : Addr) (H : Hp) (L : Addr) (s h : Nat) : Prop where
  s1 : 8 ≤ s
  s2 : s ≤ 64
  h1 : 4 ≤ h
  h2 : h ≤ 32
  ex : ∃ dx, H L = some (.ins C dx (layF s h))
section
variable {P : Program} {w : World} {K : PySem.W.Frag} {mg : Str → Option Value} {base : Heap} {CDisk CLayout : Addr}
theorem LayAt.but {H H' : Hp} {L : Addr} {s h : Nat} {T : List Addr} (l : LayAt CLayout H L s h) (b : But T H H') (n : L ∉ T) : LayAt CLayout H' L s h := by
  obtain ⟨a, b1, c, d, dx, e⟩ := l
  exact ⟨a, b1, c, d, dx, b.at e n⟩
theorem LayAt.same {H H' : Hp} {L : Addr} {s h : Nat} (l : LayAt CLayout H L s h) (b : Same H H') : LayAt CLayout H' L s h := l.but (But.of_same (S := []) b) List.not_mem_nil
theorem LayAt.live {H : Hp} {L : Addr} {s h : Nat} (l : LayAt CLayout H L s h) : H L ≠ none := by
  obtain ⟨a, b1, c, d, dx, e⟩ := l
  exact live_of e
def spLayInit (CLayout : Addr) : Sp := fun vs H Q _ => ∃ (L dx : Addr) (s h : Nat), vs = [.ref L, .int s, .int h] ∧ H L = some (.ins CLayout dx []) ∧ 8 ≤ s ∧ s ≤ 64 ∧ 4 ≤ h ∧ h ≤ 32 ∧
  ∀ H', But [L] H H' → LayAt CLayout H' L s h → Q .non H'
abbrev s_Layout_init : Stmt := inClass (top 22) 0
abbrev N_Layout_init : List Str := ["self", "slots", "homes"]
theorem sc_Layout_init : FnScope N_Layout_init ["self", "slots", "homes"] (defScope s_Layout_init) :=
  ⟨rfl, rfl, rfl, by decide +kernel, rfl, by decide +kernel, by decide +kernel⟩

theorem ok_Layout_init {f : Addr} {fd : FuncData} (F : Fun K "__init__" "Layout.__init__" s_Layout_init f fd) (G : Gi mg) (T : TLay K CLayout) (C_is_between : ClKW P w K mg base 2 "is_between" 1 ["low", "high"] (spBet K)) :
    FnW P w K mg base 3 f fd ["self", "slots", "homes"] (spLayInit CLayout) := by
  refine okW F sc_Layout_init (fun vs H Q E h => ?_) (fun cdv A outer s H vs Q E cc pn hw hr h => ?_)
  · obtain ⟨_, _, _, _, rfl, _⟩ := h
    rfl
  · obtain ⟨L, dx, sl, ho, rfl, hL, h1, h2, h3, h4, k⟩ := h
    have nd := sc_Layout_init.nd
    obtain ⟨cl, n1, n2⟩ := T
    refine ⟨_, (pss_cons (ps_if (pt_not (pt_tru (K := K) (pe_clKW C_is_between hw hr (by decide) (pa_cons (pv 1) pa_nil) (pk_cons (pe_gintE rfl G.LEAST_SLOTS) (pk_cons (pe_gintE rfl G.MOST_SLOTS) pk_nil))))) (pss_one (ps_dead)) pss_nil)
      (pss_cons (ps_if (pt_not (pt_tru (K := K) (pe_clKW C_is_between hw hr (by decide) (pa_cons (pv 2) pa_nil) (pk_cons (pe_gintE rfl G.LEAST_HOMES) (pk_cons (pe_gintE rfl G.MOST_HOMES) pk_nil))))) (pss_one (ps_dead)) pss_nil)
      (pss_cons (ps_fldA (K := K) (pv 0) (pv 1))
      (pss_one (ps_fldA (K := K) (pv 0) (pv 2)))))), ?_⟩
    repeat walk_at "s"
    refine ⟨_, [], .int sl, 8, 64, rfl, .int _, ?_⟩
    rw [bet_iff.mpr ⟨by omega, by omega⟩]
    repeat walk_at "s"
    refine r_iteF rfl ?_
    repeat walk_at "s"
    refine ⟨_, [], .int ho, 4, 32, rfl, .int _, ?_⟩
    rw [bet_iff.mpr ⟨by omega, by omega⟩]
    repeat walk_at "s"
    refine r_iteF rfl ?_
    repeat walk_at "s"
    refine r_setAt hL cl n1 (Nat.le_of_ble_eq_true rfl) (fun H1 b1 hL1 => ?_)
    repeat walk_at "s"
    refine r_setAt hL1 cl n2 (Nat.le_of_ble_eq_true rfl) (fun H2 b2 hL2 => ?_)
    exact k H2 (b1.trans b2) ⟨h1, h2, h3, h4, dx, hL2⟩
def spLayI (CLayout : Addr) (g : Nat → Nat → Nat) : Sp := fun vs H Q _ => ∃ (L : Addr) (s h : Nat), vs = [.ref L] ∧ LayAt CLayout H L s h ∧ Q (.int (g s h)) H
abbrev s_Layout_slots : Stmt := inClass (top 22) 1
abbrev N_Layout_slots : List Str := ["self"]
theorem sc_Layout_slots : FnScope N_Layout_slots ["self"] (defScope s_Layout_slots) :=
  ⟨rfl, rfl, rfl, by decide +kernel, rfl, by decide +kernel, by decide +kernel⟩

theorem ok_Layout_slots {f : Addr} {fd : FuncData} (F : Fun K "slots" "Layout.slots" s_Layout_slots f fd) (T : TLay K CLayout) :
    FnW P w K mg base 1 f fd ["self"] (spLayI CLayout fun s _ => s) := by
  refine okW F sc_Layout_slots (fun vs H Q E h => ?_) (fun cdv A outer s H vs Q E cc pn hw hr h => ?_)
  · obtain ⟨_, _, _, rfl, _⟩ := h
    rfl
  · obtain ⟨L, sl, ho, rfl, ⟨h1, h2, h3, h4, dx, hL⟩, k⟩ := h
    have nd := sc_Layout_slots.nd
    obtain ⟨cl, n1, n2⟩ := T
    refine ⟨_, (pss_one (ps_ret (pe_fldA (K := K) (pv 0)))), ?_⟩
    repeat walk_at "s"
    exact k
def spSlotBlock (CLayout : Addr) : Sp := fun vs H Q _ => ∃ (L : Addr) (s h : Nat) (b : Int), vs = [.ref L, .int b] ∧ LayAt CLayout H L s h ∧ 0 ≤ b ∧ b < s ∧ Q (.int (1 + b)) H
abbrev s_Layout_slot_block : Stmt := inClass (top 22) 4
abbrev N_Layout_slot_block : List Str := ["self", "slot"]
theorem sc_Layout_slot_block : FnScope N_Layout_slot_block ["self", "slot"] (defScope s_Layout_slot_block) :=
  ⟨rfl, rfl, rfl, by decide +kernel, rfl, by decide +kernel, by decide +kernel⟩

theorem ok_Layout_slot_block {f : Addr} {fd : FuncData} (F : Fun K "slot_block" "Layout.slot_block" s_Layout_slot_block f fd) (T : TLay K CLayout) (C_is_between : ClKW P w K mg base 2 "is_between" 1 ["low", "high"] (spBet K)) :
    FnW P w K mg base 3 f fd ["self", "slot"] (spSlotBlock CLayout) := by
  refine okW F sc_Layout_slot_block (fun vs H Q E h => ?_) (fun cdv A outer s H vs Q E cc pn hw hr h => ?_)
  · obtain ⟨_, _, _, _, rfl, _⟩ := h
    rfl
  · obtain ⟨L, sl, ho, b, rfl, ⟨h1, h2, h3, h4, dx, hL⟩, hb0, hb1, k⟩ := h
    have nd := sc_Layout_slot_block.nd
    obtain ⟨cl, n1, n2⟩ := T
    refine ⟨_, (pss_cons (ps_if (pt_not (pt_tru (K := K) (pe_clKW C_is_between hw hr (by decide) (pa_cons (pv 1) pa_nil) (pk_cons pe_int (pk_cons (pe_op op_sub (pe_fldA (K := K) (pv 0)) pe_int) pk_nil))))) (pss_one (ps_dead)) pss_nil)
      (pss_one (ps_ret (pe_op (op_addA (K := K)) pe_int (pv 1))))), ?_⟩
    repeat walk_at "s"
    refine ⟨_, [], .int b, 0, _, rfl, .int _, ?_⟩
    rw [bet_iff.mpr ⟨hb0, by omega⟩]
    repeat walk_at "s"
    refine r_iteF rfl ?_
    repeat walk_at "s"
    exact k
end
end L27

set_option Elab.async false
set_option linter.all false
set_option maxHeartbeats 4000000
open PySem L2 PyProof.Rows J
namespace L27
/-- what the header says -/
def hdD (num : Int) (slot : Nat) : PyData := .tuple [.str "tail", .int num, .int slot]
/-- ascending numbers from 0 to count - 1 -/
structure Asc (count : Int) (ns : List Int) : Prop where
  up : ns.Pairwise (· < ·)
  lo : ∀ x ∈ ns, 0 ≤ x
  hi : ∀ x ∈ ns, x < count
theorem asc_snoc {c : Int} {ns : List Int} (h : Asc c ns) (h0 : 0 ≤ c) : Asc (c + 1) (ns ++ [c]) := by
  refine ⟨List.pairwise_append.mpr ⟨h.up, List.pairwise_singleton _ _, fun a ha b hb => ?_⟩, fun x hx => ?_, fun x hx => ?_⟩
  · rw [List.mem_singleton.mp hb]; exact h.hi a ha
  · rcases List.mem_append.mp hx with hx | hx
    · exact h.lo x hx
    · rw [List.mem_singleton.mp hx]; exact h0
  · rcases List.mem_append.mp hx with hx | hx
    · have := h.hi x hx; omega
    · rw [List.mem_singleton.mp hx]; omega
theorem Asc.mono {c d : Int} {ns : List Int} (h : Asc c ns) (l : c ≤ d) : Asc d ns := ⟨h.up, h.lo, fun x hx => Int.lt_of_lt_of_le (h.hi x hx) l⟩
def cut8 {α : Type} (xs : List α) (k : Nat) : List α := (xs.drop (8 * k)).take 8
def n8 {α : Type} (xs : List α) : Nat := (xs.length + 7) / 8
def revUp (rs : List Int) (i : Nat) : List Rc := (List.range i).map fun k => .revoke (cut8 rs k)
def descG (g : List (Int × PyData)) : List Rc := .desc (g.map (·.1)) :: g.map fun c => .copy c.2
def descUp (cs : List (Int × PyData)) (i : Nat) : List Rc := (List.range i).flatMap fun k => descG (cut8 cs k)
def recs (cs : List (Int × PyData)) (rs : List Int) : List Rc := revUp rs (n8 rs) ++ descUp cs (n8 cs) ++ [.commit]
theorem revUp_succ (rs : List Int) (i : Nat) : revUp rs (i + 1) = revUp rs i ++ [.revoke (cut8 rs i)] := by
  unfold revUp
  rw [List.range_succ, List.map_append]; rfl
theorem descUp_succ (cs : List (Int × PyData)) (i : Nat) : descUp cs (i + 1) = descUp cs i ++ descG (cut8 cs i) := by
  unfold descUp
  rw [List.range_succ, List.flatMap_append]; simp
theorem nol_rcD {num : Int} {rc : Rc} (h : ∀ v, rc = .copy v → noL v = true) : noL (rcD num rc) = true := by
  cases rc with
  | commit => rfl
  | revoke hs =>
    show (true && (true && (noL (dHs hs) && true))) = true
    have : noLs (hs.map PyData.int) = true := noLs_map fun _ _ => rfl
    rw [show noL (dHs hs) = noLs (hs.map .int) from rfl, this]; rfl
  | desc hs =>
    show (true && (true && (noL (dHs hs) && true))) = true
    have : noLs (hs.map PyData.int) = true := noLs_map fun _ _ => rfl
    rw [show noL (dHs hs) = noLs (hs.map .int) from rfl, this]; rfl
  | copy v =>
    show (true && (true && (noL v && true))) = true
    rw [h v rfl]; rfl
theorem cut8_len {α : Type} (xs : List α) (k : Nat) : (cut8 xs k).length ≤ 8 := by
  unfold cut8; rw [List.length_take]; omega
theorem revUp_len (rs : List Int) (i : Nat) : (revUp rs i).length = i := by simp [revUp]
theorem descUp_len (cs : List (Int × PyData)) (i : Nat) : (descUp cs i).length ≤ 9 * i := by
  induction i with
  | zero => simp [descUp]
  | succ i ih =>
    rw [descUp_succ, List.length_append]
    have := cut8_len cs i
    simp only [descG, List.length_cons, List.length_map]
    omega
theorem nol_recs {num : Int} {cs : List (Int × PyData)} (h : ∀ c ∈ cs, noL c.2 = true) {l : List Rc} (hl : ∀ v, .copy v ∈ l → ∃ c ∈ cs, v = c.2) : noLs (l.map (rcD num)) = true :=
  noLs_map fun rc hrc => nol_rcD fun v e => by
    obtain ⟨c, hc, rfl⟩ := hl v (e ▸ hrc)
    exact h c hc
theorem copy_revUp {rs : List Int} {i : Nat} {v : PyData} (h : .copy v ∈ revUp rs i) : False := by
  obtain ⟨k, _, e⟩ := List.mem_map.mp h
  cases e
theorem cut8_mem {α : Type} {xs : List α} {k : Nat} {x : α} (h : x ∈ cut8 xs k) : x ∈ xs := List.mem_of_mem_drop (List.mem_of_mem_take h)
theorem copy_descUp {cs : List (Int × PyData)} {i : Nat} {v : PyData} (h : .copy v ∈ descUp cs i) : ∃ c ∈ cs, v = c.2 := by
  obtain ⟨k, _, h⟩ := List.mem_flatMap.mp h
  rcases List.mem_cons.mp h with h | h
  · cases h
  · obtain ⟨c, hc, e⟩ := List.mem_map.mp h
    cases e
    exact ⟨c, cut8_mem hc, rfl⟩
end L27

open PySem L2 PyProof.Rows J

namespace L27
section
variable {P : Program} {w : World} {K : PySem.W.Frag} {mg : Str → Option Value} {base : Heap} {CDisk CLayout : Addr}
/-! ### groups, checks, records -/
theorem ecut8 {xs : List V} {i : Nat} : cutV xs (some ((8 * i : Nat) : Int)) (some (((8 * i : Nat) : Int) + 8)) = cut8 xs i := by
  have h := cut_fromTo (xs := xs) (n := 8 * i) (m := 8 * i + 8)
  rw [Nat.add_sub_cancel_left] at h
  exact h
def spGroups : Sp := fun vs H Q _ => ∃ (a : Addr) (xs : List V), vs = [.ref a] ∧ H a = some (.lst xs) ∧ xs.length ≤ 100 ∧
  ∀ l (gs : List Addr) H', H l = none → Same H H' → H' l = some (.lst (gs.map V.ref)) → gs.length = n8 xs → (∀ (k : Nat) g, gs[k]? = some g → H' g = some (.lst (cut8 xs k)) ∧ g ≠ l ∧ H g = none) → Q (.ref l) H'
abbrev s_groups_of : Stmt := top 25
abbrev N_groups_of : List Str := ["items", "at"]
theorem sc_groups_of : FnScope N_groups_of ["items"] (defScope s_groups_of) :=
  ⟨rfl, rfl, rfl, by decide +kernel, rfl, by decide +kernel, by decide +kernel⟩

theorem ok_groups {f : Addr} {fd : FuncData} (F : Fun K "groups_of" "groups_of" s_groups_of f fd) (B : Bl mg) (G : Gi mg) :
    FnW P w K mg base 1 f fd ["items"] spGroups := by
  refine okW F sc_groups_of (fun vs H Q E h => ?_) (fun cdv A outer s H vs Q E cc pn hw hr h => ?_)
  · obtain ⟨_, _, rfl, _⟩ := h
    rfl
  · obtain ⟨a, xs, rfl, ha, hx, k⟩ := h
    have nd := sc_groups_of.nd
    refine ⟨_, (pss_one (ps_ret (pe_lcW (own := [("at", 1)]) (g := (gName 1)) (tt := tYes) hw nd (pi_range3W rfl B.range (pa_cons pe_int (pa_cons (pe_callB (call_lenA (K := K)) rfl B.len PySem.boot_len (pa_cons (pv 0) pa_nil)) (pa_cons (pe_gintE rfl G.GROUP) pa_nil)))) (blkOk_by (own := [("at", 1)]) (N := N_groups_of) (sc := defScope s_groups_of) (by decide +kernel)) (fun _ _ _ _ _ _ hw => (pg_name (i := 1) nd rfl (by first | exact Or.inl rfl | exact Or.inr rfl))) (fun _ _ _ _ _ _ hw => pts_nil) (fun _ _ _ _ _ _ hw => pe_slice (sl_any (K := K)) (pv 0) (po_some (pv 1)) (po_some (pe_op (op_addA (K := K)) (pv 1) (pe_gintE rfl G.GROUP))))))), ?_⟩
    repeat walk_at "s"
    refine lcR8 (by omega) (fun l H1 hl s1 hl1 => ?_)
    have nal : a ≠ l := ne_of_none ha hl
    refine ⟨fun i H' => ∃ gs : List Addr, But [l] H1 H' ∧ H' l = some (.lst (gs.map V.ref)) ∧ gs.length = i ∧ ∀ (k : Nat) g, gs[k]? = some g → H' g = some (.lst (cut8 xs k)) ∧ g ≠ l ∧ H g = none, ⟨[], .refl, hl1, rfl, by simp⟩, ?_, ?_⟩
    · rintro i H2 hi ⟨gs, b2, hl2, hgl, hg⟩
      have ha2 : H2 a = some (.lst xs) := b2.at (s1 _ _ ha) (by simpa using nal)
      repeat walk_at "s"
      refine ⟨rfl, ?_⟩
      refine r_yes ?_
      refine r_iteT rfl ?_
      repeat walk_at "s"
      refine r_slL (.of ha2) (fun q H3 hq s3 hq3 => ?_)
      rw [ecut8] at hq3
      have nql : q ≠ l := fun z => live_of hl2 (z ▸ hq)
      refine ⟨_, s3 _ _ hl2, szl (by rw [List.length_map]; omega), ?_⟩
      obtain ⟨H4, e4, b4, hl4⟩ := upd_ex (o' := .lst ((gs.map V.ref) ++ [.ref q])) (s3 _ _ hl2)
      rw [e4]
      refine ⟨gs ++ [q], (b2.trans (But.of_same s3)).trans b4, by rw [hl4, List.map_append]; rfl, by rw [List.length_append, hgl]; rfl, fun k g hk => ?_⟩
      by_cases h : k < gs.length
      · rw [List.getElem?_append_left h] at hk
        obtain ⟨h1, h2, h3⟩ := hg k g hk
        exact ⟨b4.at (s3 _ _ h1) (by simpa using h2), h2, h3⟩
      · have hk2 := (List.getElem?_eq_some_iff.mp hk).1
        rw [List.length_append, List.length_singleton] at hk2
        have e : k = gs.length := by omega
        subst e
        rw [List.getElem?_append_right (Nat.le_refl _), Nat.sub_self] at hk
        cases hk
        rw [hgl]
        exact ⟨b4.at hq3 (by simpa using nql), nql, (bt_but (But.of_same s1) b2 (bc_fr hl bc_nil) : But [] H H2).free hq⟩
    · rintro H2 ⟨gs, b2, hl2, hgl, hg⟩
      exact k l gs H2 hl (bt_but (But.of_same s1) b2 (bc_fr hl bc_nil) : But [] H H2).same hl2 hgl hg
def spChH : Sp := fun vs H Q _ => ∃ (a : Addr) (hs : List Int), vs = [.ref a] ∧ H a = some (.lst (hs.map V.int)) ∧ Asc 32 hs ∧ ∀ H', Same H H' → Q .non H'
abbrev s_check_homes : Stmt := top 26
abbrev N_check_homes : List Str := ["homes", "last", "home"]
theorem sc_check_homes : FnScope N_check_homes ["homes"] (defScope s_check_homes) :=
  ⟨rfl, rfl, rfl, by decide +kernel, rfl, by decide +kernel, by decide +kernel⟩

theorem ok_check_homes {f : Addr} {fd : FuncData} (F : Fun K "check_homes" "check_homes" s_check_homes f fd) (B : Bl mg) (G : Gi mg) (C_is_between : ClKW P w K mg base 2 "is_between" 1 ["low", "high"] (spBet K)) :
    FnW P w K mg base 3 f fd ["homes"] spChH := by
  refine okW F sc_check_homes (fun vs H Q E h => ?_) (fun cdv A outer s H vs Q E cc pn hw hr h => ?_)
  · obtain ⟨_, _, rfl, _⟩ := h
    rfl
  · obtain ⟨a, hs, rfl, ha, hc, k⟩ := h
    have hu := hu_of hr
    have nd := sc_check_homes.nd
    refine ⟨_, (pss_cons (ps_if (pt_not (pt_tru (K := K) (pe_callB (call_isiA (K := K)) rfl B.isinstance (by decide +kernel) (pa_cons (pv 0) (pa_cons (pe_tyN (T := "list") rfl B.list (by decide +kernel)) pa_nil))))) (pss_one (ps_dead)) pss_nil)
      (pss_cons (ps_set (i := 1) nd rfl (by first | exact Or.inl rfl | exact Or.inr rfl) (pe_un un_neg pe_int))
      (pss_one (ps_forW PassesOwn.never hw (pi_lstW (K := K) (pv 0)) (pg_name (i := 2) nd rfl (by first | exact Or.inl rfl | exact Or.inr rfl))
      (pss_cons (ps_if (pt_not (pt_tru (K := K) (pe_clKW C_is_between hw hr (by decide) (pa_cons (pv 2) pa_nil) (pk_cons (pe_op (op_addA (K := K)) (pv 1) pe_int) (pk_cons (pe_op op_sub (pe_gintE rfl G.MOST_HOMES) pe_int) pk_nil))))) (pss_one (ps_dead)) pss_nil)
      (pss_one (ps_set (i := 1) nd rfl (by first | exact Or.inl rfl | exact Or.inr rfl) (pv 2)))))))), ?_⟩
    repeat walk_at "s"
    refine r_isList (S := []) (d := .list (hs.map .int)) (.lst ha List.not_mem_nil DnAll.ints) ?_
    repeat walk_at "s"
    refine r_iteF rfl ?_
    repeat walk_at "s"
    refine r_U ?_
    repeat walk_at "s"
    refine forL (.of ha) (fun i σ H' => ∃ last o2, σ = [some (.ref a), some (.int last), o2] ∧ Same H H' ∧ -1 ≤ last ∧ ∀ x ∈ hs.drop i, last < x)
      ⟨_, _, rfl, fun _ _ e => e, by decide, fun x hx => by have := hc.lo x (List.mem_of_mem_drop hx); omega⟩ ?_ ?_ ?_
    · rintro i σ H1 hi ⟨last, o2, rfl, s1, _⟩
      exact .of (s1 _ _ ha)
    · rintro i x σ H1 hi ⟨last, o2, rfl, s1, hl0, hl⟩
      obtain ⟨n, hn, rfl⟩ := map_getG hi
      have hdr : hs.drop i = n :: hs.drop (i + 1) := by
        obtain ⟨hlt, rfl⟩ := List.getElem?_eq_some_iff.mp hn
        exact List.drop_eq_getElem_cons hlt
      have hln := hl n (by rw [hdr]; exact List.mem_cons_self)
      have hnc := hc.hi n (List.mem_of_getElem? hn)
      repeat walk_at "s"
      refine ⟨_, [], .int n, last + 1, _, rfl, .int _, ?_⟩
      rw [bet_iff.mpr ⟨by omega, by omega⟩]
      repeat walk_at "s"
      refine r_iteF rfl ?_
      repeat walk_at "s"
      refine ⟨_, _, rfl, s1, by omega, fun x hx => ?_⟩
      have hp := hc.up.sublist (List.drop_sublist i hs)
      rw [hdr] at hp
      exact (List.pairwise_cons.mp hp).1 x hx
    · rintro σ H1 ⟨last, o2, rfl, s1, _⟩
      exact k H1 s1
/-- what may stand in a record -/
structure RvOk (v : PyData) : Prop where
  blk : blockB v = true
  dep : v.depth ≤ 7
theorem RvOk.v1 {v : PyData} (h : RvOk v) : valB v 1 = true := valB_up v 0 1 (blockB_val h.blk) (by have := h.dep; omega)
theorem RvOk.nol {v : PyData} (h : RvOk v) : noL v = true := blockB_nol h.blk
theorem RvOk.slim {v : PyData} (h : RvOk v) : J.slim v = true := blockB_slim h.blk
/-- the homes are homes, the values may stand in a record -/
structure PartsOk (cs : List (Int × PyData)) (rs : List Int) : Prop where
  ca : Asc 32 (cs.map (·.1))
  cv : ∀ c ∈ cs, RvOk c.2
  ra : Asc 32 rs
theorem asc_len {n : Nat} : ∀ {k : Int} {hs : List Int}, hs.Pairwise (· < ·) → (∀ x ∈ hs, k ≤ x ∧ x < n) → hs = [] ∨ (hs.length : Int) + k ≤ n
  | _, [], _, _ => .inl rfl
  | k, x :: r, h, hh => by
    have h1 := List.pairwise_cons.mp h
    have hx := hh x List.mem_cons_self
    rcases asc_len (n := n) (k := x + 1) h1.2 (fun y hy => ⟨h1.1 y hy, (hh y (List.mem_cons_of_mem _ hy)).2⟩) with e | e
    · subst e; right; rw [List.length_singleton]; omega
    · right; rw [List.length_cons]; omega
theorem Asc.len32 {hs : List Int} (h : Asc 32 hs) : hs.length ≤ 32 := by
  rcases asc_len (n := 32) (k := 0) h.up (fun x hx => ⟨h.lo x hx, h.hi x hx⟩) with e | e
  · rw [e]; decide
  · omega
end
end L27

open PySem L2 PyProof.Rows J

namespace L27
section
variable {P : Program} {w : World} {K : PySem.W.Frag} {mg : Str → Option Value} {base : Heap} {CDisk CLayout : Addr}
theorem PartsOk.nolc {cs : List (Int × PyData)} {rs : List Int} (h : PartsOk cs rs) : ∀ c ∈ cs, noL c.2 = true := fun c hc => (h.cv c hc).nol
theorem PartsOk.lens {cs : List (Int × PyData)} {rs : List Int} (h : PartsOk cs rs) : cs.length ≤ 32 ∧ rs.length ≤ 32 := by
  have := h.ca.len32
  rw [List.length_map] at this
  exact ⟨this, h.ra.len32⟩
def spChP (K : PySem.W.Frag) : Sp := fun vs H Q _ => ∃ (c r : Addr) (xc : List V) (cs : List (Int × PyData)) (rs : List Int), vs = [.ref c, .ref r] ∧ H c = some (.lst xc) ∧ DnAll K [] H xc (cs.map dWr) ∧ H r = some (.lst (rs.map V.int)) ∧ PartsOk cs rs ∧ ∀ H', Same H H' → Q .non H'
abbrev s_check_parts : Stmt := top 27
abbrev N_check_parts : List Str := ["copies", "revokes", "one", "home", "value"]
theorem sc_check_parts : FnScope N_check_parts ["copies", "revokes"] (defScope s_check_parts) :=
  ⟨rfl, rfl, rfl, by decide +kernel, rfl, by decide +kernel, by decide +kernel⟩

theorem ok_check_parts {f : Addr} {fd : FuncData} (F : Fun K "check_parts" "check_parts" s_check_parts f fd) (B : Bl mg) (C_check_homes : ClW P w K mg base 3 "check_homes" spChH) (C_is_value : ClW P w K mg base 11 "is_value" (spVal K 9)) :
    FnW P w K mg base 12 f fd ["copies", "revokes"] (spChP K) := by
  refine okW F sc_check_parts (fun vs H Q E h => ?_) (fun cdv A outer s H vs Q E cc pn hw hr h => ?_)
  · obtain ⟨_, _, _, _, _, rfl, _⟩ := h
    rfl
  · obtain ⟨c, r, xc, cs, rs, rfl, hc, hxc, hrr, ok, k⟩ := h
    have hu := hu_of hr
    have nd := sc_check_parts.nd
    have xl : xc.length = cs.length := by rw [hxc.length, List.length_map]
    refine ⟨_, (pss_cons (ps_if (PW.pt (pw_or (pt_not (pt_tru (K := K) (pe_callB (call_isiA (K := K)) rfl B.isinstance (by decide +kernel) (pa_cons (pv 0) (pa_cons (pe_tyN (T := "list") rfl B.list (by decide +kernel)) pa_nil))))) (pw_or1 (pt_not (pt_tru (K := K) (pe_callB (call_allW (K := K) hw) rfl B.all (by decide +kernel) (pa_cons (pe_lcW (own := [("one", 2)]) (g := (gName 2)) (tt := tYes) hw nd (pi_lstW (K := K) (pv 0)) (blkOk_by (own := [("one", 2)]) (N := N_check_parts) (sc := defScope s_check_parts) (by decide +kernel)) (fun _ _ _ _ _ _ hw => (pg_name (i := 2) nd rfl (by first | exact Or.inl rfl | exact Or.inr rfl))) (fun _ _ _ _ _ _ hw => pts_nil) (fun _ _ _ _ _ _ hw => (pe_and (pe_callB (call_isiA (K := K)) rfl B.isinstance (by decide +kernel) (pa_cons (pv 2) (pa_cons (pe_tyN (T := "tuple") rfl B.tuple (by decide +kernel)) pa_nil))) (pe_one (pe_cmpR (op_eqA (K := K) hr.units) (pe_callB (call_lenA (K := K)) rfl B.len PySem.boot_len (pa_cons (pv 2) pa_nil)) pe_int (nomark _)))))) pa_nil))))))) (pss_one (ps_dead)) pss_nil)
      (pss_cons (ps_expr (pe_clW C_check_homes hw hr (by decide) (pa_cons (pe_lcW (own := [("home", 3), ("value", 4)]) (g := (gTup K 2 (gCons (gName 3) (gCons (gName 4) gNil)))) (tt := tYes) hw nd (pi_lstW (K := K) (pv 0)) (blkOk_by (own := [("home", 3), ("value", 4)]) (N := N_check_parts) (sc := defScope s_check_parts) (by decide +kernel)) (fun _ _ _ _ _ _ hw => (pg_tplW (K := K) (n := 2) hw (pgs_cons (pg_name (i := 3) nd rfl (by first | exact Or.inl rfl | exact Or.inr rfl)) (pgs_cons (pg_name (i := 4) nd rfl (by first | exact Or.inl rfl | exact Or.inr rfl)) pgs_nil)))) (fun _ _ _ _ _ _ hw => pts_nil) (fun _ _ _ _ _ _ hw => pv 3)) pa_nil)))
      (pss_cons (ps_if (pt_not (pt_tru (K := K) (pe_callB (call_allW (K := K) hw) rfl B.all (by decide +kernel) (pa_cons (pe_lcW (own := [("home", 3), ("value", 4)]) (g := (gTup K 2 (gCons (gName 3) (gCons (gName 4) gNil)))) (tt := tYes) hw nd (pi_lstW (K := K) (pv 0)) (blkOk_by (own := [("home", 3), ("value", 4)]) (N := N_check_parts) (sc := defScope s_check_parts) (by decide +kernel)) (fun _ _ _ _ _ _ hw => (pg_tplW (K := K) (n := 2) hw (pgs_cons (pg_name (i := 3) nd rfl (by first | exact Or.inl rfl | exact Or.inr rfl)) (pgs_cons (pg_name (i := 4) nd rfl (by first | exact Or.inl rfl | exact Or.inr rfl)) pgs_nil)))) (fun _ _ _ _ _ _ hw => pts_nil) (fun _ _ _ _ _ _ hw => pe_clW C_is_value hw hr (by decide) (pa_cons (pv 4) (pa_cons pe_int pa_nil)))) pa_nil)))) (pss_one (ps_dead)) pss_nil)
      (pss_one (ps_expr (pe_clW C_check_homes hw hr (by decide) (pa_cons (pv 1) pa_nil))))))), ?_⟩
    repeat walk_at "s"
    have nlc : noLs (cs.map dWr) = true := noLs_map fun c hc => nol_dWr (ok.nolc c hc)
    have lens := ok.lens
    refine r_isList (S := []) (d := .list (cs.map dWr)) (.lst hc List.not_mem_nil hxc) ?_
    repeat walk_at "s"
    refine r_iteF rfl ?_
    repeat walk_at "s"
    refine lcL (.of hc) (fun l H1 hl s1 hl1 => ?_)
    have ncl : c ≠ l := ne_of_none hc hl
    refine ⟨fun j H' => But [l] H1 H' ∧ H' l = some (.lst (((cs.take j).map fun _ => true).map V.bl)), ⟨.refl, hl1⟩, ?_, ?_, ?_⟩
    · rintro j H2 hj ⟨b2, hl2⟩
      exact .of (b2.at (s1 _ _ hc) (by simpa using ncl))
    · rintro j y H2 hj ⟨b2, hl2⟩
      obtain ⟨dd, hdd, hdn⟩ := hxc.get hj
      obtain ⟨u, hu', rfl⟩ := map_getG hdd
      have bH2 : But [l] H H2 := (But.of_same s1).trans b2
      have hdn2 : Dn K [] H2 y (dWr u) := hdn.nlb (nol_dWr (ok.nolc u (List.mem_of_getElem? hu'))) bH2
      obtain ⟨pp, z, rfl, hpp, hz⟩ := wr_inv hdn2
      repeat walk_at "s"
      refine ⟨rfl, ?_⟩
      refine r_yes ?_
      refine r_iteT rfl ?_
      repeat walk_at "s"
      refine r_isTup hdn2 ?_
      repeat walk_at "s"
      refine r_iteT rfl ?_
      repeat walk_at "s"
      refine r_lenT hpp ?_
      repeat walk_at "s"
      refine ⟨_, hl2, szl (by simp only [List.length_map, List.length_take]; omega), ?_⟩
      obtain ⟨H4, e4, b4, hl4⟩ := upd_ex (o' := .lst ((((cs.take j).map fun _ => true).map V.bl) ++ [.bl true])) hl2
      have ed : decide ((([V.int u.1, z].length : Nat) : Int) = 2) = true := by simp
      rw [ed, e4]
      refine ⟨b2.trans b4, ?_⟩
      rw [hl4, List.take_add_one, hu', List.map_append, List.map_append]; rfl
    rintro H2 ⟨b2, hl2⟩
    rw [xl, List.take_length] at hl2
    have s02 : Same H H2 := (bt_but (But.of_same s1) b2 (bc_fr hl bc_nil) : But [] H H2).same
    clear b2 s1 hl1
    repeat walk_at "s"
    refine ⟨l, _, rfl, .of hl2, ?_⟩
    have e1 : (cs.map fun _ => true).all id = true := by rw [List.all_map]; simp
    rw [e1]
    repeat walk_at "s"
    refine r_iteF rfl ?_
    repeat walk_at "s"
    have hc2 := s02 _ _ hc
    have hxc2 := hxc.same s02
    have hr2 := s02 _ _ hrr
    clear hl2
    -- the homes
    refine lcL (.of hc2) (fun m H3 hm s3 hm3 => ?_)
    have ncm : c ≠ m := ne_of_none hc2 hm
    refine ⟨fun j H' => But [m] H3 H' ∧ H' m = some (.lst (((cs.take j).map (·.1)).map V.int)), ⟨.refl, hm3⟩, ?_, ?_, ?_⟩
    · rintro j H4 hj ⟨b4, hm4⟩
      exact .of (b4.at (s3 _ _ hc2) (by simpa using ncm))
    · rintro j y H4 hj ⟨b4, hm4⟩
      obtain ⟨dd, hdd, hdn⟩ := hxc2.get hj
      obtain ⟨u, hu', rfl⟩ := map_getG hdd
      obtain ⟨pp, z, rfl, hpp, hz⟩ := wr_inv hdn
      have hpp4 : SqT K H4 pp [.int u.1, z] := b4.sqT ((But.of_same (S := []) s3).sqT hpp)
      repeat walk_at "s"
      refine ⟨rfl, ?_⟩
      refine r_yes ?_
      refine r_iteT rfl ?_
      repeat walk_at "s"
      refine ⟨_, hm4, szl (by simp only [List.length_map, List.length_take]; omega), ?_⟩
      obtain ⟨H5, e5, b5, hm5⟩ := upd_ex (o' := .lst ((((cs.take j).map (·.1)).map V.int) ++ [.int u.1])) hm4
      rw [e5]
      refine ⟨b4.trans b5, ?_⟩
      rw [hm5, List.take_add_one, hu', List.map_append, List.map_append]; rfl
    rintro H4 ⟨b4, hm4⟩
    rw [xl, List.take_length] at hm4
    have s04 : Same H H4 := (bt_but (But.of_same s02) ((But.of_same s3).trans b4) (bc_fr ((But.of_same (S := []) s02).free hm) bc_nil) : But [] H H4).same
    clear b4 s3 hm3 hc2 hxc2 hr2
    repeat walk_at "s"
    refine ⟨m, _, rfl, hm4, ok.ca, fun H5 s5 => ?_⟩
    have s05 : Same H H5 := fun b o e => s5 b o (s04 b o e)
    clear s5 s04 s02 hm4
    have hc5 := s05 _ _ hc
    have hxc5 := hxc.same s05
    repeat walk_at "s"
    -- the values
    refine lcL (.of hc5) (fun m2 H6 hm2 s6 hm26 => ?_)
    have ncm2 : c ≠ m2 := ne_of_none hc5 hm2
    refine ⟨fun j H' => But [m2] H6 H' ∧ H' m2 = some (.lst (((cs.take j).map fun _ => true).map V.bl)), ⟨.refl, hm26⟩, ?_, ?_, ?_⟩
    · rintro j H7 hj ⟨b7, hm7⟩
      exact .of (b7.at (s6 _ _ hc5) (by simpa using ncm2))
    · rintro j y H7 hj ⟨b7, hm7⟩
      obtain ⟨dd, hdd, hdn⟩ := hxc5.get hj
      obtain ⟨u, hu', rfl⟩ := map_getG hdd
      have hum := List.mem_of_getElem? hu'
      have hdn7 : Dn K [] H7 y (dWr u) := hdn.nlb (nol_dWr (ok.nolc u hum)) ((But.of_same s6).trans b7)
      obtain ⟨pp, z, rfl, hpp, hz⟩ := wr_inv hdn7
      repeat walk_at "s"
      refine ⟨rfl, ?_⟩
      refine r_yes ?_
      refine r_iteT rfl ?_
      repeat walk_at "s"
      refine ⟨z, [], u.2, 1, rfl, hz, (ok.cv u hum).slim, by decide, by decide, fun H8 s8 => ?_⟩
      rw [(ok.cv u hum).v1]
      refine ⟨_, s8 _ _ hm7, szl (by simp only [List.length_map, List.length_take]; omega), ?_⟩
      obtain ⟨H9, e9, b9, hm9⟩ := upd_ex (o' := .lst ((((cs.take j).map fun _ => true).map V.bl) ++ [.bl true])) (s8 _ _ hm7)
      rw [e9]
      refine ⟨(b7.trans (But.of_same s8)).trans b9, ?_⟩
      rw [hm9, List.take_add_one, hu', List.map_append, List.map_append]; rfl
    rintro H7 ⟨b7, hm7⟩
    rw [xl, List.take_length] at hm7
    have s07 : Same H H7 := (bt_but (But.of_same s05) ((But.of_same s6).trans b7) (bc_fr ((But.of_same (S := []) s05).free hm2) bc_nil) : But [] H H7).same
    clear b7 s6 hm26 hc5 hxc5
    repeat walk_at "s"
    refine ⟨m2, _, rfl, .of hm7, ?_⟩
    rw [e1]
    repeat walk_at "s"
    refine r_iteF rfl ?_
    repeat walk_at "s"
    refine ⟨r, rs, rfl, s07 _ _ hrr, ok.ra, fun H8 s8 => ?_⟩
    repeat walk_at "s"
    exact k H8 fun b o e => s8 b o (s07 b o e)
/-! ### the records of a transaction -/
theorem parts_blk {num : Int} {cs : List (Int × PyData)} {rs : List Int} (ok : PartsOk cs rs) {rc : Rc} (h : rc ∈ recs cs rs) : blockB (rcD num rc) = true := by
  refine block_rcD (fun hs e => ?_) (fun v e => ?_)
  · unfold recs at h
    rcases List.mem_append.mp h with h | h
    · rcases List.mem_append.mp h with h | h
      · obtain ⟨k, _, q⟩ := List.mem_map.mp h
        rcases e with e | e
        · rw [← q] at e; cases e
          exact Nat.le_trans (cut8_len rs k) (by decide)
        · rw [← q] at e; cases e
      · obtain ⟨k, _, h⟩ := List.mem_flatMap.mp h
        rcases List.mem_cons.mp h with h | h
        · rw [h] at e
          rcases e with e | e
          · cases e
          · cases e
            rw [List.length_map]
            exact Nat.le_trans (cut8_len cs k) (by decide)
        · obtain ⟨c, _, q⟩ := List.mem_map.mp h
          rw [← q] at e
          rcases e with e | e <;> cases e
    · rw [List.mem_singleton.mp h] at e
      rcases e with e | e <;> cases e
  · rw [e] at h
    unfold recs at h
    rcases List.mem_append.mp h with h | h
    · rcases List.mem_append.mp h with h | h
      · exact (copy_revUp h).elim
      · obtain ⟨c, hc, rfl⟩ := copy_descUp h
        exact ⟨(ok.cv c hc).blk, (ok.cv c hc).dep⟩
    · cases List.mem_singleton.mp h
def spRecsOf (K : PySem.W.Frag) : Sp := fun vs H Q _ => ∃ (num : Int) (c r : Addr) (xc : List V) (cs : List (Int × PyData)) (rs : List Int), vs = [.int num, .ref c, .ref r] ∧ 1 ≤ num ∧ H c = some (.lst xc) ∧ DnAll K [] H xc (cs.map dWr) ∧ H r = some (.lst (rs.map V.int)) ∧ PartsOk cs rs ∧
  ∀ l xs H', H l = none → Same H H' → H' l = some (.lst xs) → DnAll K [] H' xs ((recs cs rs).map (rcD num)) → Q (.ref l) H'
abbrev s_records_of : Stmt := top 28
abbrev N_records_of : List Str := ["number", "copies", "revokes", "found", "group", "home", "value"]
theorem sc_records_of : FnScope N_records_of ["number", "copies", "revokes"] (defScope s_records_of) :=
  ⟨rfl, rfl, rfl, by decide +kernel, rfl, by decide +kernel, by decide +kernel⟩

theorem ok_records_of {f : Addr} {fd : FuncData} (F : Fun K "records_of" "records_of" s_records_of f fd) (B : Bl mg) (C_is_integer : ClW P w K mg base 1 "is_integer" (spIsInt K)) (C_check_parts : ClW P w K mg base 12 "check_parts" (spChP K)) (C_groups_of : ClW P w K mg base 1 "groups_of" spGroups) :
    FnW P w K mg base 13 f fd ["number", "copies", "revokes"] (spRecsOf K) := by
  refine okW F sc_records_of (fun vs H Q E h => ?_) (fun cdv A outer s H vs Q E cc pn hw hr h => ?_)
  · obtain ⟨_, _, _, _, _, _, rfl, _⟩ := h
    rfl
  · obtain ⟨num, c, r, xc, cs, rs, rfl, hnum, hc, hxc, hrr, ok, k⟩ := h
    have hu := hu_of hr
    have nd := sc_records_of.nd
    have xl : xc.length = cs.length := by rw [hxc.length, List.length_map]
    have lens := ok.lens
    refine ⟨_, (pss_cons (ps_if (PW.pt (pw_or (pt_not (pt_tru (K := K) (pe_clW C_is_integer hw hr (by decide) (pa_cons (pv 0) pa_nil)))) (pw_or1 (pt_cmpR op_ltA (pv 0) pe_int (nomark _))))) (pss_one (ps_dead)) pss_nil)
      (pss_cons (ps_expr (pe_clW C_check_parts hw hr (by decide) (pa_cons (pv 1) (pa_cons (pv 2) pa_nil))))
      (pss_cons (ps_setLcW (i := 3) (own := [("group", 4)]) (g := (gName 4)) (tt := tYes) hw nd rfl rfl (sw_true rfl rfl rfl (by decide +kernel)) (pi_lstW (K := K) (pe_clW C_groups_of hw hr (by decide) (pa_cons (pv 2) pa_nil))) (blkOk_by (own := [("group", 4)]) (N := N_records_of) (sc := defScope s_records_of) (by decide +kernel)) (fun _ _ _ _ _ _ hw => (pg_name (i := 4) nd rfl (by first | exact Or.inl rfl | exact Or.inr rfl))) (fun _ _ _ _ _ _ hw => pts_nil) (fun _ _ _ _ _ _ hw => pe_tup (pa_cons pe_str (pa_cons (pv 0) (pa_cons (pe_callTy (call_tupleA (K := K)) rfl B.tuple (by decide +kernel) (pa_cons (pv 4) pa_nil)) pa_nil)))))
      (pss_cons (ps_forW PassesOwn.never hw (pi_lstW (K := K) (pe_clW C_groups_of hw hr (by decide) (pa_cons (pv 1) pa_nil))) (pg_name (i := 4) nd rfl (by first | exact Or.inl rfl | exact Or.inr rfl))
      (pss_cons (ps_expr (pe_bm PySem.F.plainAttrs_list PySem.F.slot_list_append PySem.F.type_list_append mt_append (pv 3) (pa_cons (pe_tup (pa_cons pe_str (pa_cons (pv 0) (pa_cons (pe_callTy (call_tupleA (K := K)) rfl B.tuple (by decide +kernel) (pa_cons (pe_lcW (own := [("home", 5), ("value", 6)]) (g := (gTup K 2 (gCons (gName 5) (gCons (gName 6) gNil)))) (tt := tYes) hw nd (pi_lstW (K := K) (pv 4)) (blkOk_by (own := [("home", 5), ("value", 6)]) (N := N_records_of) (sc := defScope s_records_of) (by decide +kernel)) (fun _ _ _ _ _ _ hw => (pg_tplW (K := K) (n := 2) hw (pgs_cons (pg_name (i := 5) nd rfl (by first | exact Or.inl rfl | exact Or.inr rfl)) (pgs_cons (pg_name (i := 6) nd rfl (by first | exact Or.inl rfl | exact Or.inr rfl)) pgs_nil)))) (fun _ _ _ _ _ _ hw => pts_nil) (fun _ _ _ _ _ _ hw => pv 5)) pa_nil)) pa_nil)))) pa_nil)))
      (pss_one (ps_aug (i := 3) nd rfl (by first | exact Or.inl rfl | exact Or.inr rfl) (pe_lcW (own := [("home", 5), ("value", 6)]) (g := (gTup K 2 (gCons (gName 5) (gCons (gName 6) gNil)))) (tt := tYes) hw nd (pi_lstW (K := K) (pv 4)) (blkOk_by (own := [("home", 5), ("value", 6)]) (N := N_records_of) (sc := defScope s_records_of) (by decide +kernel)) (fun _ _ _ _ _ _ hw => (pg_tplW (K := K) (n := 2) hw (pgs_cons (pg_name (i := 5) nd rfl (by first | exact Or.inl rfl | exact Or.inr rfl)) (pgs_cons (pg_name (i := 6) nd rfl (by first | exact Or.inl rfl | exact Or.inr rfl)) pgs_nil)))) (fun _ _ _ _ _ _ hw => pts_nil) (fun _ _ _ _ _ _ hw => pe_tup (pa_cons pe_str (pa_cons (pv 0) (pa_cons (pv 6) pa_nil))))) ip_addA))))
      (pss_one (ps_ret (pe_op (op_addA (K := K)) (pv 3) (pe_lst (pa_cons (pe_tup (pa_cons pe_str (pa_cons (pv 0) pa_nil))) pa_nil))))))))), ?_⟩
    repeat walk_at "s"
    have nlc : noLs (cs.map dWr) = true := noLs_map fun c hc => nol_dWr (ok.nolc c hc)
    refine ⟨_, [], .int num, rfl, .int _, ?_⟩
    repeat walk_at "s"
    refine r_iteF rfl ?_
    repeat walk_at "s"
    refine r_iteF (decide_eq_false (by omega)) ?_
    repeat walk_at "s"
    refine ⟨c, r, xc, cs, rs, rfl, hc, hxc, hrr, ok, fun H1 s1 => ?_⟩
    repeat walk_at "s"
    refine ⟨r, _, rfl, s1 _ _ hrr, by rw [List.length_map]; omega, fun lg gs H2 hlg s2 hlg2 hgl hgs => ?_⟩
    have gl : gs.length = n8 rs := by rw [hgl]; unfold n8; rw [List.length_map]
    have cutM : ∀ {α : Type} {f : α → V} {xs : List α} {i : Nat}, cut8 (xs.map f) i = (cut8 xs i).map f := fun {α f xs i} => by
      unfold cut8
      rw [List.map_take, List.map_drop]
    have s02 : Same H H2 := fun b o e => s2 b o (s1 b o e)
    clear s1 s2
    refine lcL (.of hlg2) (fun l H3 hl s3 hl3 => ?_)
    have nlgl : lg ≠ l := ne_of_none hlg2 hl
    refine ⟨fun i H' => ∃ xs, But [l] H3 H' ∧ H' l = some (.lst xs) ∧ DnAll K [] H' xs ((revUp rs i).map (rcD num)), ⟨[], .refl, hl3, .nil⟩, ?_, ?_, ?_⟩
    · rintro i H4 hi ⟨xs, b4, hl4, hxs⟩
      exact .of (b4.at (s3 _ _ hlg2) (by simpa using nlgl))
    · rintro i y H4 hi ⟨xs, b4, hl4, hxs⟩
      obtain ⟨gq, hgq, rfl⟩ := map_getG hi
      have hil := (List.getElem?_eq_some_iff.mp hgq).1
      obtain ⟨hg1, hg2, _⟩ := hgs i gq hgq
      have ngl : gq ≠ l := ne_of_none hg1 hl
      have hg4 : H4 gq = some (.lst ((cut8 rs i).map V.int)) := by
        rw [← cutM]
        exact b4.at (s3 _ _ hg1) (by simpa using ngl)
      have xs100 : xs.length ≤ 100 := by
        rw [hxs.length, List.length_map, revUp_len]
        have : n8 rs ≤ 5 := by unfold n8; omega
        omega
      have nl1 : noLs ((revUp rs i).map (rcD num)) = true := noLs_map fun rc hrc => nol_rcD fun v e => (copy_revUp (e ▸ hrc)).elim
      repeat walk_at "s"
      refine ⟨rfl, ?_⟩
      refine r_yes ?_
      refine r_iteT rfl ?_
      repeat walk_at "s"
      refine r_tupleL (.of hg4) (fun t H5 ht s5 ht5 => ?_)
      repeat walk_at "s"
      refine r_newT (sz (Nat.le_of_ble_eq_true rfl)) (fun T H6 hT s6 hT6 => ?_)
      have hl6 : H6 l = some (.lst xs) := s6 _ _ (s5 _ _ hl4)
      refine ⟨_, hl6, szl (by omega), ?_⟩
      obtain ⟨H7, e7, b7, hl7⟩ := upd_ex (o' := .lst (xs ++ [.ref T])) hl6
      rw [e7]
      have b47 : But [l] H4 H7 := ((But.of_same s5).trans (But.of_same s6)).trans b7
      refine ⟨_, b4.trans b47, hl7, ?_⟩
      rw [revUp_succ, List.map_append]
      exact (hxs.nlb nl1 b47).snoc (.tup (SqT.of (b7.tup hT6)) (.cons (.str _) (.cons (.int _) (.one (.tup (SqT.of (b7.tup (s6 _ _ ht5))) DnAll.ints)))))
    rintro H4 ⟨xs, b4, hl4, hxs⟩
    rw [List.length_map, gl] at hxs
    have fl : H l = none := (But.of_same (S := []) s02).free hl
    have b04 : But [l] H H4 := (But.of_same s02).trans ((But.of_same s3).trans b4)
    have ncl : c ≠ l := ne_of_none hc fl
    have hc4 := b04.at hc (by simpa using ncl)
    have nlr : noLs ((revUp rs (n8 rs)).map (rcD num)) = true := noLs_map fun rc hrc => nol_rcD fun v e => (copy_revUp (e ▸ hrc)).elim
    clear b4 s3 hlg2 hgs hgl s02 hl3
    repeat walk_at "s"
    refine ⟨c, _, rfl, hc4, by omega, fun lg2 gs2 H5 hlg2 s5 hlg25 hgl2 hgs2 => ?_⟩
    have gl2 : gs2.length = n8 cs := by rw [hgl2]; unfold n8; rw [xl]
    have nlg2 : lg2 ≠ l := fun z => live_of hl4 (z ▸ hlg2)
    have b05 : But [l] H H5 := b04.trans (But.of_same s5)
    refine forL (.of hlg25) (fun i σ H' => ∃ o4 o5 o6 ys, σ = [some (.int num), some (.ref c), some (.ref r), some (.ref l), o4, o5, o6] ∧ But [l] H5 H' ∧ H' l = some (.lst ys) ∧ DnAll K [] H' ys ((revUp rs (n8 rs) ++ descUp cs i).map (rcD num)))
      ⟨_, _, _, xs, rfl, .refl, s5 _ _ hl4, by simpa [descUp] using hxs.same s5⟩ ?_ ?_ ?_
    · rintro i σ H6 hi ⟨o4, o5, o6, ys, rfl, b6, hl6, hys⟩
      exact .of (b6.at hlg25 (by simpa using nlg2))
    · rintro i y σ H6 hi ⟨o4, o5, o6, ys, rfl, b6, hl6, hys⟩
      obtain ⟨gq, hgq, rfl⟩ := map_getG hi
      have hil := (List.getElem?_eq_some_iff.mp hgq).1
      obtain ⟨hg1, _, hg3⟩ := hgs2 i gq hgq
      have bH6 : But [l] H H6 := b05.trans b6
      have nlc6 : noLs (cs.map dWr) = true := nlc
      have hcut : ∀ {H' : Hp} {T : List Addr}, But T H H' → DnAll K [] H' (cut8 xc i) ((cut8 cs i).map dWr) := fun b => by
        have h := ((hxc.nlb nlc b (S' := [])).drop (8 * i)).take 8
        rw [← List.map_drop, ← List.map_take] at h
        exact h
      have clen8 : (cut8 xc i).length = (cut8 cs i).length := by rw [(hcut bH6).length, List.length_map]
      have c8 := cut8_len cs i
      have ngl : gq ≠ l := fun z => live_of hl4 (z ▸ hg3)
      have hg6 : H6 gq = some (.lst (cut8 xc i)) := b6.at hg1 (by simpa using ngl)
      have yl : ys.length ≤ 1000 := by
        rw [hys.length, List.length_map, List.length_append, revUp_len]
        have := descUp_len cs i
        have h1 : n8 rs ≤ 5 := by unfold n8; omega
        have h2 : i < 5 := by
          rw [gl2] at hil
          unfold n8 at hil
          omega
        omega
      have nlx : noLs ((revUp rs (n8 rs) ++ descUp cs i).map (rcD num)) = true := nol_recs ok.nolc fun v hv => by
        rcases List.mem_append.mp hv with hv | hv
        · exact (copy_revUp hv).elim
        · exact copy_descUp hv
      have b56 := b6
      clear b6
      repeat walk_at "s"
      refine lcL (.of hg6) (fun m H7 hm s7 hm7 => ?_)
      have ngm : gq ≠ m := ne_of_none hg6 hm
      have bH7 : But [l] H H7 := bH6.trans (But.of_same s7)
      refine ⟨fun j H' => But [m] H7 H' ∧ H' m = some (.lst ((((cut8 cs i).take j).map (·.1)).map V.int)), ⟨.refl, hm7⟩, ?_, ?_, ?_⟩
      · rintro j H8 hj ⟨b8, hm8⟩
        exact .of (b8.at (s7 _ _ hg6) (by simpa using ngm))
      · rintro j y H8 hj ⟨b8, hm8⟩
        obtain ⟨dd, hdd, hdn⟩ := (hcut bH7).get hj
        obtain ⟨u, hu', rfl⟩ := map_getG hdd
        obtain ⟨pp, z, rfl, hpp, hz⟩ := wr_inv hdn
        have hpp8 : SqT K H8 pp [.int u.1, z] := b8.sqT hpp
        repeat walk_at "s"
        refine ⟨rfl, ?_⟩
        refine r_yes ?_
        refine r_iteT rfl ?_
        repeat walk_at "s"
        refine ⟨_, hm8, szl (by simp only [List.length_map, List.length_take]; omega), ?_⟩
        obtain ⟨H9, e9, b9, hm9⟩ := upd_ex (o' := .lst (((((cut8 cs i).take j).map (·.1)).map V.int) ++ [.int u.1])) hm8
        rw [e9]
        refine ⟨b8.trans b9, ?_⟩
        rw [hm9, List.take_add_one, hu', List.map_append, List.map_append]; rfl
      rintro H8 ⟨b8, hm8⟩
      rw [clen8, List.take_length] at hm8
      have b68 : But [] H6 H8 := bt_but (But.of_same s7) b8 (bc_fr hm bc_nil)
      clear b8 s7 hm7 bH7
      repeat walk_at "s"
      refine r_tupleL (.of hm8) (fun t H9 ht s9 ht9 => ?_)
      repeat walk_at "s"
      refine r_newT (sz (Nat.le_of_ble_eq_true rfl)) (fun T H10 hT s10 hT10 => ?_)
      repeat walk_at "s"
      have hl10 : H10 l = some (.lst ys) := s10 _ _ (s9 _ _ (b68.at hl6 (by simp)))
      refine r_app hl10 (szl (by omega)) (fun H11 b11 hl11 => ?_)
      have b611 : But [l] H6 H11 := (b68.sub (by simp)).trans ((But.of_same s9).trans ((But.of_same s10).trans b11))
      have hg11 : H11 gq = some (.lst (cut8 xc i)) := b611.at hg6 (by simpa using ngl)
      have d11 : DnAll K [] H11 (ys ++ [.ref T]) ((revUp rs (n8 rs) ++ descUp cs i ++ [Rc.desc ((cut8 cs i).map (·.1))]).map (rcD num)) := by
        rw [List.map_append]
        exact (hys.nlb nlx b611).snoc (.tup (SqT.of (b11.tup hT10)) (.cons (.str _) (.cons (.int _) (.one (.tup (SqT.of (b11.tup (s10 _ _ ht9))) DnAll.ints)))))
      have bH11 : But [l] H H11 := bH6.trans b611
      have b511 : But [l] H5 H11 := b56.trans b611
      clear b68 s9 s10 b11
      repeat walk_at "s"
      refine lcL (.of hg11) (fun m2 H12 hm2 s12 hm212 => ?_)
      have ngm2 : gq ≠ m2 := ne_of_none hg11 hm2
      have bH12 : But [l] H H12 := bH11.trans (But.of_same s12)
      refine ⟨fun j H' => ∃ zs, But [m2] H12 H' ∧ H' m2 = some (.lst zs) ∧ DnAll K [] H' zs ((((cut8 cs i).take j).map fun c => Rc.copy c.2).map (rcD num)), ⟨[], .refl, hm212, .nil⟩, ?_, ?_, ?_⟩
      · rintro j H13 hj ⟨zs, b13, hm13, hzs⟩
        exact .of (b13.at (s12 _ _ hg11) (by simpa using ngm2))
      · rintro j y H13 hj ⟨zs, b13, hm13, hzs⟩
        obtain ⟨dd, hdd, hdn⟩ := (hcut (bH12.sub (T := l :: [m2]) (by simp) |>.trans (b13.sub (by simp)))).get hj
        obtain ⟨u, hu', rfl⟩ := map_getG hdd
        obtain ⟨pp, z, rfl, hpp, hz⟩ := wr_inv hdn
        have hum : u ∈ cs := cut8_mem (List.mem_of_getElem? hu')
        have zl : zs.length ≤ 8 := by rw [hzs.length, List.length_map, List.length_map, List.length_take]; omega
        have nlz : noLs ((((cut8 cs i).take j).map fun c => Rc.copy c.2).map (rcD num)) = true := nol_recs ok.nolc fun v hv => by
          obtain ⟨c', hc', e⟩ := List.mem_map.mp hv
          cases e
          exact ⟨c', cut8_mem (List.mem_of_mem_take hc'), rfl⟩
        repeat walk_at "s"
        refine ⟨rfl, ?_⟩
        refine r_yes ?_
        refine r_iteT rfl ?_
        repeat walk_at "s"
        refine r_newT (sz (Nat.le_of_ble_eq_true rfl)) (fun T2 H14 hT2 s14 hT214 => ?_)
        refine ⟨_, s14 _ _ hm13, szl (by omega), ?_⟩
        obtain ⟨H15, e15, b15, hm15⟩ := upd_ex (o' := .lst (zs ++ [.ref T2])) (s14 _ _ hm13)
        rw [e15]
        have b1315 : But [m2] H13 H15 := (But.of_same s14).trans b15
        refine ⟨_, b13.trans b1315, hm15, ?_⟩
        rw [List.take_add_one, hu', List.map_append, List.map_append]
        exact (hzs.nlb nlz b1315).snoc (.tup (SqT.of (b15.tup hT214)) (.cons (.str _) (.cons (.int _) (.one (hz.nlb (ok.nolc u hum) b1315)))))
      rintro H13 ⟨zs, b13, hm13, hzs⟩
      rw [clen8, List.take_length] at hzs
      have b1113 : But [] H11 H13 := bt_but (But.of_same s12) b13 (bc_fr hm2 bc_nil)
      have hl13 := b1113.at hl11 (by simp)
      have d13 := d11.nlb (S' := []) (by
        rw [List.map_append, noLs_all]
        intro z hz
        rcases List.mem_append.mp hz with hz | hz
        · exact noLs_all.mp nlx z hz
        · obtain ⟨rc, hrc, rfl⟩ := List.mem_map.mp hz
          rw [List.mem_singleton.mp hrc]
          exact nol_rcD fun v e => by cases e) b1113
      have zl8 : zs.length ≤ 8 := by rw [hzs.length, List.length_map, List.length_map]; omega
      have b1113' := b1113
      clear b13 b1113 s12
      refine r_ext hl13 hm13 (sz (by rw [List.length_append, List.length_singleton]; exact Nat.le_of_lt (by omega))) (fun H14 b14 hl14 => ?_)
      refine ⟨_, _, _, _, rfl, b511.trans ((b1113'.sub (by simp)).trans b14), hl14, ?_⟩
      have e5 : revUp rs (n8 rs) ++ descUp cs (i + 1) = revUp rs (n8 rs) ++ descUp cs i ++ [Rc.desc ((cut8 cs i).map (·.1))] ++ (cut8 cs i).map fun c => Rc.copy c.2 := by
        rw [descUp_succ]
        unfold descG
        simp
      rw [e5, List.map_append]
      have nla : noLs ((revUp rs (n8 rs) ++ descUp cs i ++ [Rc.desc ((cut8 cs i).map (·.1))]).map (rcD num)) = true := nol_recs ok.nolc fun v hv => by
        rcases List.mem_append.mp hv with hv | hv
        · rcases List.mem_append.mp hv with hv | hv
          · exact (copy_revUp hv).elim
          · exact copy_descUp hv
        · cases List.mem_singleton.mp hv
      have nlb : noLs (((cut8 cs i).map fun c => Rc.copy c.2).map (rcD num)) = true := nol_recs ok.nolc fun v hv => by
        obtain ⟨c', hc', e⟩ := List.mem_map.mp hv
        cases e
        exact ⟨c', cut8_mem hc', rfl⟩
      exact (d13.nlb nla b14).append (hzs.nlb nlb b14)
    · rintro σ H6 ⟨o4, o5, o6, ys, rfl, b6, hl6, hys⟩
      rw [List.length_map, gl2] at hys
      have b06 : But [l] H H6 := b05.trans b6
      have s06 : Same H H6 := (bt_but .refl b06 (bc_fr fl bc_nil) : But [] H H6).same
      have yl : ys.length ≤ 1000 := by
        rw [hys.length, List.length_map, List.length_append, revUp_len]
        have := descUp_len cs (n8 cs)
        have h1 : n8 rs ≤ 5 := by unfold n8; omega
        have h2 : n8 cs ≤ 5 := by unfold n8; omega
        omega
      clear b6 b06
      repeat walk_at "s"
      refine r_newT (sz (Nat.le_of_ble_eq_true rfl)) (fun T H7 hT s7 hT7 => ?_)
      repeat walk_at "s"
      refine r_newL (sz (Nat.le_of_ble_eq_true rfl)) (fun m H8 hm s8 hm8 => ?_)
      repeat walk_at "s"
      refine r_addL (s8 _ _ (s7 _ _ hl6)) hm8 (sz (by simp; omega)) (fun L H9 hL s9 hL9 => ?_)
      have s69 : Same H6 H9 := fun b o e => s9 b o (s8 b o (s7 b o e))
      have dT : Dn K [] H9 (.ref T) (rcD num .commit) := .tup (SqT.of (s9 _ _ (s8 _ _ hT7))) (.cons (.str _) (.one (.int _)))
      refine k L _ H9 ((But.of_same (S := []) (fun b o e => s8 b o (s7 b o (s06 b o e)))).free hL) (fun b o e => s69 b o (s06 b o e)) hL9 ?_
      have e7 : recs cs rs = revUp rs (n8 rs) ++ descUp cs (n8 cs) ++ [.commit] := rfl
      rw [e7, List.map_append]
      exact (hys.same s69).snoc dT
end
end L27

open PySem L2 PyProof.Rows J

namespace L27
/-! ### a journal's state -/
/-- a kept transaction -/
structure Kp where
  num : Int
  size : Nat
  cs : List (Int × PyData)
  rs : List Int
  left : List Int
structure JM where
  next : Int
  head : Nat
  kept : List Kp
  cop : List (Int × PyData)
  rev : List Int
/-- where a kept transaction lies -/
structure KA where
  c : Addr
  dc : Addr
  lr : Addr
  ll : Addr
def KA.all (a : KA) : List Addr := [a.c, a.dc, a.lr, a.ll]
def kpF (num : Int) (size : Nat) (dc lr ll : Addr) : List (Str × V) := [("label", .int num), ("size", .int size), ("copies", .ref dc), ("revokes", .ref lr), ("left", .ref ll)]
structure TKp (K : PySem.W.Frag) (C : Addr) : Prop where
  cl : Cls K C
  n1 : NoAttr K C "label"
  n2 : NoAttr K C "size"
  n3 : NoAttr K C "copies"
  n4 : NoAttr K C "revokes"
  n5 : NoAttr K C "left"
def KpAt (K : PySem.W.Frag) (CC : Addr) (H : Hp) (a : KA) (k : Kp) : Prop := ∃ dx kvs, H a.c = some (.ins CC dx (kpF k.num k.size a.dc a.lr a.ll)) ∧ H a.dc = some (.dK kvs) ∧ KvD K [] H kvs k.cs ∧ H a.lr = some (.lst (k.rs.map V.int)) ∧ H a.ll = some (.lst (k.left.map V.int)) ∧ (∀ c ∈ k.cs, RvOk c.2)
section
variable {P : Program} {w : World} {K : PySem.W.Frag} {mg : Str → Option Value} {base : Heap} {CDisk CLayout CC : Addr} {H H' : Hp} {T : List Addr}
theorem KpAt.but {a : KA} {k : Kp} (h : KpAt K CC H a k) (b : But T H H') (n : Dj a.all T) : KpAt K CC H' a k := by
  obtain ⟨dx, kvs, h0, h1, h2, h3, h4, h5⟩ := h
  exact ⟨dx, kvs, b.at h0 (n _ (by simp [KA.all])), b.at h1 (n _ (by simp [KA.all])), h2.nlb (fun c hc => (h5 c hc).nol) b, b.at h3 (n _ (by simp [KA.all])), b.at h4 (n _ (by simp [KA.all])), h5⟩
theorem KpAt.live {a : KA} {k : Kp} (h : KpAt K CC H a k) : Live a.all H := by
  obtain ⟨dx, kvs, h0, h1, h2, h3, h4, h5⟩ := h
  exact .cons h0 (.cons h1 (.cons h3 (.cons h4 .nil)))
def spKpInit (K : PySem.W.Frag) (CC : Addr) : Sp := fun vs H Q _ => ∃ (c dx cl rl : Addr) (num : Int) (size : Nat) (xc : List V) (cs : List (Int × PyData)) (rs : List Int), vs = [.ref c, .int num, .int size, .ref cl, .ref rl] ∧ H c = some (.ins CC dx []) ∧ H cl = some (.lst xc) ∧ DnAll K [] H xc (cs.map dWr) ∧
  H rl = some (.lst (rs.map V.int)) ∧ PartsOk cs rs ∧ ∀ dc lr ll H', But [c] H H' → Fr [dc, lr, ll] H → [c, dc, lr, ll].Nodup → KpAt K CC H' ⟨c, dc, lr, ll⟩ ⟨num, size, cs, rs, cs.map (·.1)⟩ → Q .non H'
theorem merge_kv {H : Hp} : ∀ {cs : List (Int × PyData)} {xc : List V}, DnAll K [] H xc (cs.map dWr) → ∃ (ps : List Addr) (kvs : List (L2.Key × V)), xc = ps.map V.ref ∧ (∀ (T : List Addr) (H' : Hp), But T H H' → Paired (fun p kv => SqT K H' p [kV kv.1, kv.2]) ps kvs) ∧ KvD K [] H kvs cs
  | [], _, h => by
    obtain rfl := h.nil_inv
    exact ⟨[], [], rfl, fun _ _ _ => .nil, .nil⟩
  | c :: cs, _, h => by
    obtain ⟨x, xs, rfl, h1, h2⟩ := h.cons_inv
    obtain ⟨p, y, rfl, hp, hy⟩ := wr_inv h1
    obtain ⟨ps, kvs, rfl, h3, h4⟩ := merge_kv h2
    exact ⟨p :: ps, (.inl c.1, y) :: kvs, rfl, fun T H' b => .cons (b.sqT hp) (h3 T H' b), .cons hy h4⟩
theorem putK_new {kvs : List (L2.Key × V)} {k : L2.Key} {v : V} (h : k ∉ kvs.map (·.1)) : putK kvs k v = kvs ++ [(k, v)] := by
  unfold putK
  rw [if_neg]
  intro z
  rw [List.any_eq_true] at z
  obtain ⟨q, hq, e⟩ := z
  exact h (List.mem_map.mpr ⟨q, hq, of_decide_eq_true e⟩)
theorem mergeK_nodup : ∀ {more kvs : List (L2.Key × V)}, ((kvs ++ more).map (·.1)).Nodup → mergeK kvs more = kvs ++ more
  | [], kvs, _ => by simp [mergeK]
  | q :: more, kvs, h => by
    have e : mergeK kvs (q :: more) = mergeK (putK kvs q.1 q.2) more := rfl
    have hn : q.1 ∉ kvs.map (·.1) := by
      rw [List.map_append, List.map_cons] at h
      intro z
      exact (List.nodup_append.mp h).2.2 _ z _ List.mem_cons_self rfl
    rw [e, putK_new hn, mergeK_nodup (by rw [List.append_assoc]; exact h), List.append_assoc]; rfl
abbrev s_Committed_init : Stmt := inClass (top 33) 0
abbrev N_Committed_init : List Str := ["self", "number", "size", "copies", "revokes", "home", "value"]
theorem sc_Committed_init : FnScope N_Committed_init ["self", "number", "size", "copies", "revokes"] (defScope s_Committed_init) :=
  ⟨rfl, rfl, rfl, by decide +kernel, rfl, by decide +kernel, by decide +kernel⟩

theorem ok_Committed_init {f : Addr} {fd : FuncData} (F : Fun K "__init__" "Committed.__init__" s_Committed_init f fd) (B : Bl mg) (T : TKp K CC) :
    FnW P w K mg base 1 f fd ["self", "number", "size", "copies", "revokes"] (spKpInit K CC) := by
  refine okW F sc_Committed_init (fun vs H Q E h => ?_) (fun cdv A outer s H vs Q E cc pn hw hr h => ?_)
  · obtain ⟨_, _, _, _, _, _, _, _, _, rfl, _⟩ := h
    rfl
  · obtain ⟨c, dx, cl, rl, num, size, xc, cs, rs, rfl, hc, hcl, hxc, hrl, ok, k⟩ := h
    have hu := hu_of hr
    have nd := sc_Committed_init.nd
    obtain ⟨tc, n1, n2, n3, n4, n5⟩ := T
    have xl : xc.length = cs.length := by rw [hxc.length, List.length_map]
    have nlc : noLs (cs.map dWr) = true := noLs_map fun c hc => nol_dWr (ok.nolc c hc)
    have lens := ok.lens
    have ncl : cl ≠ c := fun z => by rw [z, hc] at hcl; cases hcl
    have nrl : rl ≠ c := fun z => by rw [z, hc] at hrl; cases hrl
    refine ⟨_, (pss_cons (ps_fldA (K := K) (pv 0) (pv 1))
      (pss_cons (ps_fldA (K := K) (pv 0) (pv 2))
      (pss_cons (ps_fldA (K := K) (pv 0) (pe_callTy (call_dictPW (K := K) hw) rfl B.dict (by decide +kernel) (pa_cons (pv 3) pa_nil)))
      (pss_cons (ps_fldA (K := K) (pv 0) (pe_callTy (call_listA (K := K)) rfl B.list (by decide +kernel) (pa_cons (pv 4) pa_nil)))
      (pss_one (ps_fldA (K := K) (pv 0) (pe_lcW (own := [("home", 5), ("value", 6)]) (g := (gTup K 2 (gCons (gName 5) (gCons (gName 6) gNil)))) (tt := tYes) hw nd (pi_lstW (K := K) (pv 3)) (blkOk_by (own := [("home", 5), ("value", 6)]) (N := N_Committed_init) (sc := defScope s_Committed_init) (by decide +kernel)) (fun _ _ _ _ _ _ hw => (pg_tplW (K := K) (n := 2) hw (pgs_cons (pg_name (i := 5) nd rfl (by first | exact Or.inl rfl | exact Or.inr rfl)) (pgs_cons (pg_name (i := 6) nd rfl (by first | exact Or.inl rfl | exact Or.inr rfl)) pgs_nil)))) (fun _ _ _ _ _ _ hw => pts_nil) (fun _ _ _ _ _ _ hw => pv 5)))))))), ?_⟩
    repeat walk_at "s"
    refine r_setAt hc tc n1 (Nat.le_of_ble_eq_true rfl) (fun H1 b1 hc1 => ?_)
    repeat walk_at "s"
    refine r_setAt hc1 tc n2 (Nat.le_of_ble_eq_true rfl) (fun H2 b2 hc2 => ?_)
    repeat walk_at "s"
    have b02 : But [c] H H2 := b1.trans b2
    clear b1 b2
    have hcl2 := b02.at hcl (by simpa using ncl)
    have hxc2 : DnAll K [] H2 xc (cs.map dWr) := hxc.nlb nlc b02
    obtain ⟨ps, kvs, exc, hpsA, hkv⟩ := merge_kv hxc
    have hps := hpsA _ _ b02
    rw [exc] at hcl2
    refine ⟨cl, ps, kvs, rfl, .of hcl2, hps, fun dc hdc => ?_⟩
    have ekv : mergeK [] kvs = kvs := mergeK_nodup (by
      rw [List.nil_append, hkv.keys]
      exact (ok.ca.up.imp fun h => Int.ne_of_lt h).map Sum.inl fun a b h z => h (Sum.inl.inj z))
    obtain ⟨H3, e3, s3, hdc3⟩ : ∃ H3, upd H2 dc (.dK (mergeK [] kvs)) = H3 ∧ Same H2 H3 ∧ H3 dc = some (.dK kvs) := ⟨_, rfl, (But.new (S := []) hdc).same, by rw [upd_same, ekv]⟩
    rw [e3]
    clear e3
    rw [← exc] at hcl2
    have ndc : dc ≠ c := fun z => live_of hc2 (z ▸ hdc)
    have fdc : H dc = none := b02.free hdc
    repeat walk_at "s"
    refine r_setAt (s3 _ _ hc2) tc n3 (Nat.le_of_ble_eq_true rfl) (fun H4 b4 hc4 => ?_)
    have b04 : But [c] H H4 := b02.trans ((But.of_same s3).trans b4)
    have hdc4 := b4.at hdc3 (by simpa using ndc)
    have hrl4 := b04.at hrl (by simpa using nrl)
    clear b02 s3 b4 hcl2 hc2 hdc3
    repeat walk_at "s"
    refine r_listL (.of hrl4) (fun lr H5 hlr s5 hlr5 => ?_)
    have nlr : lr ≠ c := fun z => live_of hc4 (z ▸ hlr)
    have nlrd : lr ≠ dc := fun z => live_of hdc4 (z ▸ hlr)
    have flr : H lr = none := b04.free hlr
    repeat walk_at "s"
    refine r_setAt (s5 _ _ hc4) tc n4 (Nat.le_of_ble_eq_true rfl) (fun H6 b6 hc6 => ?_)
    have b06 : But [c] H H6 := b04.trans ((But.of_same s5).trans b6)
    have hdc6 := b6.at (s5 _ _ hdc4) (by simpa using ndc)
    have hlr6 := b6.at hlr5 (by simpa using nlr)
    have hcl6 := b06.at hcl (by simpa using ncl)
    clear b04 s5 b6 hc4 hdc4 hlr5 hrl4
    repeat walk_at "s"
    refine lcL (.of hcl6) (fun ll H7 hll s7 hll7 => ?_)
    have nclm : cl ≠ ll := ne_of_none hcl6 hll
    refine ⟨fun j H' => But [ll] H7 H' ∧ H' ll = some (.lst (((cs.take j).map (·.1)).map V.int)), ⟨.refl, hll7⟩, ?_, ?_, ?_⟩
    · rintro j H8 hj ⟨b8, hm8⟩
      exact .of (b8.at (s7 _ _ hcl6) (by simpa using nclm))
    · rintro j y H8 hj ⟨b8, hm8⟩
      obtain ⟨dd, hdd, hdn⟩ := hxc.get hj
      obtain ⟨u, hu', rfl⟩ := map_getG hdd
      obtain ⟨pp, z, rfl, hpp, hz⟩ := wr_inv hdn
      have hpp8 : SqT K H8 pp [.int u.1, z] := b8.sqT ((But.of_same (S := []) s7).sqT (b06.sqT hpp))
      repeat walk_at "s"
      refine ⟨rfl, ?_⟩
      refine r_yes ?_
      refine r_iteT rfl ?_
      repeat walk_at "s"
      refine ⟨_, hm8, szl (by simp only [List.length_map, List.length_take]; omega), ?_⟩
      obtain ⟨H9, e9, b9, hm9⟩ := upd_ex (o' := .lst ((((cs.take j).map (·.1)).map V.int) ++ [.int u.1])) hm8
      rw [e9]
      refine ⟨b8.trans b9, ?_⟩
      rw [hm9, List.take_add_one, hu', List.map_append, List.map_append]; rfl
    rintro H8 ⟨b8, hm8⟩
    rw [xl, List.take_length] at hm8
    have s68 : Same H6 H8 := (bt_but (But.of_same s7) b8 (bc_fr hll bc_nil) : But [] H6 H8).same
    have nll : ll ≠ c := fun z => live_of hc6 (z ▸ hll)
    have nlld : ll ≠ dc := fun z => live_of hdc6 (z ▸ hll)
    have nllr : ll ≠ lr := fun z => live_of hlr6 (z ▸ hll)
    have fll : H ll = none := b06.free hll
    clear b8 s7 hll7
    repeat walk_at "s"
    refine r_setAt (s68 _ _ hc6) tc n5 (Nat.le_of_ble_eq_true rfl) (fun H9 b9 hc9 => ?_)
    have b09 : But [c] H H9 := b06.trans ((But.of_same s68).trans b9)
    refine k dc lr ll H9 b09 (fun t ht => ?_) ?_ ⟨_, kvs, hc9, b9.at (s68 _ _ hdc6) (by simpa using ndc), ?_, b9.at (s68 _ _ hlr6) (by simpa using nlr), b9.at hm8 (by simpa using nll), ok.cv⟩
    · simp only [List.mem_cons, List.not_mem_nil, or_false] at ht
      rcases ht with rfl | rfl | rfl
      · exact fdc
      · exact flr
      · exact fll
    · simp only [List.nodup_cons, List.mem_cons, List.not_mem_nil, or_false, not_or, not_false_eq_true, List.nodup_nil, and_true]
      exact ⟨⟨ndc.symm, nlr.symm, nll.symm⟩, ⟨nlrd.symm, nlld.symm⟩, nllr.symm⟩
    · exact hkv.nlb ok.nolc b09
def spForget (K : PySem.W.Frag) (CC : Addr) : Sp := fun vs H Q _ => ∃ (a : KA) (k : Kp) (hl : Addr) (hs : List Int), vs = [.ref a.c, .ref hl] ∧ KpAt K CC H a k ∧ a.all.Nodup ∧ H hl = some (.lst (hs.map V.int)) ∧ k.left.length ≤ 1000 ∧ hs.length ≤ 1000 ∧
  ∀ ll H', But [a.c] H H' → H ll = none → KpAt K CC H' { a with ll := ll } { k with left := k.left.filter fun x => decide (x ∉ hs) } → Q .non H'
abbrev s_Committed_forget : Stmt := inClass (top 33) 1
abbrev N_Committed_forget : List Str := ["self", "homes", "home"]
theorem sc_Committed_forget : FnScope N_Committed_forget ["self", "homes"] (defScope s_Committed_forget) :=
  ⟨rfl, rfl, rfl, by decide +kernel, rfl, by decide +kernel, by decide +kernel⟩

theorem ok_Committed_forget {f : Addr} {fd : FuncData} (F : Fun K "forget" "Committed.forget" s_Committed_forget f fd) (B : Bl mg) (T : TKp K CC) :
    FnW P w K mg base 1 f fd ["self", "homes"] (spForget K CC) := by
  refine okW F sc_Committed_forget (fun vs H Q E h => ?_) (fun cdv A outer s H vs Q E cc pn hw hr h => ?_)
  · obtain ⟨_, _, _, _, rfl, _⟩ := h
    rfl
  · obtain ⟨a, kp, hl, hs, rfl, ⟨dx, kvs, h0, h1, h2, h3, h4, h5⟩, hnd, hhl, kl, hsl, k⟩ := h
    have hu := hu_of hr
    have nd := sc_Committed_forget.nd
    obtain ⟨tc, n1, n2, n3, n4, n5⟩ := T
    refine ⟨_, (pss_one (ps_fldA (K := K) (pv 0) (pe_lcW (own := [("home", 2)]) (g := (gName 2)) hw nd (pi_lstW (K := K) (pe_fldA (K := K) (pv 0))) (blkOk_by (own := [("home", 2)]) (N := N_Committed_forget) (sc := defScope s_Committed_forget) (by decide +kernel)) (fun _ _ _ _ _ _ hw => (pg_name (i := 2) nd rfl (by first | exact Or.inl rfl | exact Or.inr rfl))) (fun _ _ _ _ _ _ hw => pts_one (pt_cmpR (op_niA (K := K) (unitsW hr)) (pv 2) (pv 1) (by rfl))) (fun _ _ _ _ _ _ hw => pv 2)))), ?_⟩
    repeat walk_at "s"
    refine lcL (.of h4) (fun ll H1 hll s1 hll1 => ?_)
    have nl4 : a.ll ≠ ll := ne_of_none h4 hll
    have nhl : hl ≠ ll := ne_of_none hhl hll
    refine ⟨fun j H' => But [ll] H1 H' ∧ H' ll = some (.lst (((kp.left.take j).filter fun x => decide (x ∉ hs)).map V.int)), ⟨.refl, hll1⟩, ?_, ?_, ?_⟩
    · rintro j H2 hj ⟨b2, hm2⟩
      exact .of (b2.at (s1 _ _ h4) (by simpa using nl4))
    · rintro j y H2 hj ⟨b2, hm2⟩
      obtain ⟨x, hx, rfl⟩ := map_getG hj
      have hhl2 := b2.at (s1 _ _ hhl) (by simpa using nhl)
      repeat walk_at "s"
      refine ⟨rfl, ?_⟩
      repeat walk_at "s"
      refine r_niL (.of hhl2) ?_
      repeat walk_at "s"
      have etk : kp.left.take (j + 1) = kp.left.take j ++ [x] := by rw [List.take_add_one, hx]; rfl
      refine r_iteN (fun hn => ?_) (fun hn => ?_)
      · repeat walk_at "s"
        have ln : ((kp.left.take j).filter fun x => decide (x ∉ hs)).length ≤ 1000 := by
          have h1 := List.length_filter_le (fun x => decide (x ∉ hs)) (kp.left.take j)
          have h2 : (kp.left.take j).length ≤ kp.left.length := by rw [List.length_take]; omega
          omega
        refine ⟨_, hm2, szl (by rw [List.length_map]; omega), ?_⟩
        obtain ⟨H3, e3, b3, hm3⟩ := upd_ex (o' := .lst ((((kp.left.take j).filter fun x => decide (x ∉ hs)).map V.int) ++ [.int x])) hm2
        rw [e3]
        refine ⟨b2.trans b3, ?_⟩
        rw [hm3, etk, List.filter_append, List.filter_cons_of_pos (by simpa using hn), List.map_append]; rfl
      · refine ⟨b2, ?_⟩
        rw [hm2, etk, List.filter_append, List.filter_cons_of_neg (by simpa using hn)]
        simp
    rintro H2 ⟨b2, hm2⟩
    rw [List.length_map, List.take_length] at hm2
    have s02 : Same H H2 := (bt_but (But.of_same s1) b2 (bc_fr hll bc_nil) : But [] H H2).same
    have nc : a.c ≠ ll := ne_of_none h0 hll
    clear b2 s1 hll1
    repeat walk_at "s"
    refine r_setAt (s02 _ _ h0) tc n5 (Nat.le_of_ble_eq_true rfl) (fun H3 b3 h03 => ?_)
    simp only [KA.all, List.nodup_cons, List.mem_cons, List.not_mem_nil, or_false, not_or, not_false_eq_true, List.nodup_nil, and_true] at hnd
    obtain ⟨⟨a1, a2, a3⟩, ⟨a4, a5⟩, a6⟩ := hnd
    have b03 : But [a.c] H H3 := (But.of_same s02).trans b3
    refine k ll H3 b03 hll ⟨dx, kvs, h03, b03.at h1 (by simpa using Ne.symm a1), h2.nlb (fun c hc => (h5 c hc).nol) b03, b03.at h3 (by simpa using Ne.symm a2), b3.at hm2 (by simpa using Ne.symm nc), h5⟩
end
end L27

open PySem L2 PyProof.Rows J

namespace L27
/-! ### the journal -/
structure TJn (K : PySem.W.Frag) (C : Addr) : Prop where
  cl : Cls K C
  n1 : NoAttr K C "plan"
  n2 : NoAttr K C "medium"
  n3 : NoAttr K C "without"
  n4 : NoAttr K C "next_number"
  n5 : NoAttr K C "head"
  n6 : NoAttr K C "log_kept"
  n7 : NoAttr K C "new_copies"
  n8 : NoAttr K C "new_revokes"
def jF (L d : Addr) (wo : V) (num : Int) (head : Nat) (lk dc dr : Addr) : List (Str × V) :=
  [("plan", .ref L), ("medium", .ref d), ("without", wo), ("next_number", .int num), ("head", .int head), ("log_kept", .ref lk), ("new_copies", .ref dc), ("new_revokes", .ref dr)]
/-- the journal at j, its parts at lk, dc, dr, cks -/
structure JIn (K : PySem.W.Frag) (CJ CC : Addr) (H : Hp) (j L d : Addr) (wo : Option Str) (M : JM) (lk dc dr : Addr) (cks : List KA) : Prop where
  nd : (j :: lk :: dc :: dr :: cks.flatMap KA.all).Nodup
  h0 : ∃ dx, H j = some (.ins CJ dx (jF L d (ruleV wo) M.next M.head lk dc dr))
  h1 : H lk = some (.lst (cks.map fun a => V.ref a.c))
  h2 : ∃ kc, H dc = some (.dK kc) ∧ KvD K [] H kc M.cop
  h3 : ∃ kr, H dr = some (.dK kr) ∧ kr.map (·.1) = M.rev.map Sum.inl
  kl : cks.length = M.kept.length
  kk : ∀ (i : Nat) (a : KA) (k : Kp), cks[i]? = some a → M.kept[i]? = some k → KpAt K CC H a k
  cv : ∀ c ∈ M.cop, RvOk c.2
def jAll (j lk dc dr : Addr) (cks : List KA) : List Addr := j :: lk :: dc :: dr :: cks.flatMap KA.all
def JAt (K : PySem.W.Frag) (CJ CC : Addr) (H : Hp) (j L d : Addr) (wo : Option Str) (M : JM) (fj : List Addr) : Prop := ∃ lk dc dr cks, fj = jAll j lk dc dr cks ∧ JIn K CJ CC H j L d wo M lk dc dr cks
section
variable {P : Program} {w : World} {K : PySem.W.Frag} {mg : Str → Option Value} {base : Heap} {CDisk CLayout CJ CC : Addr} {H H' : Hp} {T : List Addr} {j L d lk dc dr : Addr} {wo : Option Str} {M : JM} {cks : List KA} {fj : List Addr}
theorem ka_mem {a : KA} {x : Addr} (ha : a ∈ cks) (hx : x ∈ a.all) : x ∈ cks.flatMap KA.all := List.mem_flatMap.mpr ⟨a, ha, hx⟩
theorem JIn.but (h : JIn K CJ CC H j L d wo M lk dc dr cks) (b : But T H H') (n : Dj (jAll j lk dc dr cks) T) : JIn K CJ CC H' j L d wo M lk dc dr cks := by
  obtain ⟨nd, ⟨dx, h0⟩, h1, ⟨kc, h2, h2'⟩, ⟨kr, h3, h3'⟩, kl, kk, cv⟩ := h
  refine ⟨nd, ⟨dx, b.at h0 (n _ (by simp [jAll]))⟩, b.at h1 (n _ (by simp [jAll])), ⟨kc, b.at h2 (n _ (by simp [jAll])), h2'.nlb (fun c hc => (cv c hc).nol) b⟩, ⟨kr, b.at h3 (n _ (by simp [jAll])), h3'⟩, kl, fun i a k ha hk => (kk i a k ha hk).but b fun x hx => n x ?_, cv⟩
  exact List.mem_cons_of_mem _ (List.mem_cons_of_mem _ (List.mem_cons_of_mem _ (List.mem_cons_of_mem _ (ka_mem (List.mem_of_getElem? ha) hx))))
theorem JAt.but (h : JAt K CJ CC H j L d wo M fj) (b : But T H H') (n : Dj fj T) : JAt K CJ CC H' j L d wo M fj := by
  obtain ⟨lk, dc, dr, cks, rfl, h⟩ := h
  exact ⟨lk, dc, dr, cks, rfl, h.but b n⟩
theorem JAt.same (h : JAt K CJ CC H j L d wo M fj) (s : Same H H') : JAt K CJ CC H' j L d wo M fj := h.but (But.of_same (S := []) s) Dj.nil
theorem JIn.live (h : JIn K CJ CC H j L d wo M lk dc dr cks) : Live (jAll j lk dc dr cks) H := by
  obtain ⟨nd, ⟨dx, h0⟩, h1, ⟨kc, h2, h2'⟩, ⟨kr, h3, h3'⟩, kl, kk, cv⟩ := h
  refine .cons h0 (.cons h1 (.cons h2 (.cons h3 fun x hx => ?_)))
  obtain ⟨a, ha, hxa⟩ := List.mem_flatMap.mp hx
  obtain ⟨i, hi⟩ := List.mem_iff_getElem?.mp ha
  have hil := (List.getElem?_eq_some_iff.mp hi).1
  exact (kk i a _ hi (List.getElem?_eq_getElem (by omega))).live x hxa
theorem JAt.live (h : JAt K CJ CC H j L d wo M fj) : Live fj H := by
  obtain ⟨lk, dc, dr, cks, rfl, h⟩ := h
  exact h.live
def spHomeBlock (CLayout : Addr) : Sp := fun vs H Q _ => ∃ (L : Addr) (s h : Nat) (b : Int), vs = [.ref L, .int b] ∧ LayAt CLayout H L s h ∧ 0 ≤ b ∧ b < h ∧ Q (.int (1 + s + b)) H
abbrev s_Layout_home_block : Stmt := inClass (top 22) 5
abbrev N_Layout_home_block : List Str := ["self", "home"]
theorem sc_Layout_home_block : FnScope N_Layout_home_block ["self", "home"] (defScope s_Layout_home_block) :=
  ⟨rfl, rfl, rfl, by decide +kernel, rfl, by decide +kernel, by decide +kernel⟩

theorem ok_Layout_home_block {f : Addr} {fd : FuncData} (F : Fun K "home_block" "Layout.home_block" s_Layout_home_block f fd) (T : TLay K CLayout) (C_is_between : ClKW P w K mg base 2 "is_between" 1 ["low", "high"] (spBet K)) :
    FnW P w K mg base 3 f fd ["self", "home"] (spHomeBlock CLayout) := by
  refine okW F sc_Layout_home_block (fun vs H Q E h => ?_) (fun cdv A outer s H vs Q E cc pn hw hr h => ?_)
  · obtain ⟨_, _, _, _, rfl, _⟩ := h
    rfl
  · obtain ⟨L, sl, ho, b, rfl, ⟨h1, h2, h3, h4, dx, hL⟩, hb0, hb1, k⟩ := h
    have nd := sc_Layout_home_block.nd
    obtain ⟨cl, n1, n2⟩ := T
    refine ⟨_, (pss_cons (ps_if (pt_not (pt_tru (K := K) (pe_clKW C_is_between hw hr (by decide) (pa_cons (pv 1) pa_nil) (pk_cons pe_int (pk_cons (pe_op op_sub (pe_fldA (K := K) (pv 0)) pe_int) pk_nil))))) (pss_one (ps_dead)) pss_nil)
      (pss_one (ps_ret (pe_op (op_addA (K := K)) (pe_op (op_addA (K := K)) pe_int (pe_fldA (K := K) (pv 0))) (pv 1))))), ?_⟩
    repeat walk_at "s"
    refine ⟨_, [], .int b, 0, _, rfl, .int _, ?_⟩
    rw [bet_iff.mpr ⟨hb0, by omega⟩]
    repeat walk_at "s"
    refine r_iteF rfl ?_
    repeat walk_at "s"
    exact k
def spRuleN : Sp := fun vs H Q _ => vs = [.non] ∧ Q .non H
abbrev s_check_rule : Stmt := top 32
abbrev N_check_rule : List Str := ["rule"]
theorem sc_check_rule : FnScope N_check_rule ["rule"] (defScope s_check_rule) :=
  ⟨rfl, rfl, rfl, by decide +kernel, rfl, by decide +kernel, by decide +kernel⟩

theorem ok_check_rule {f : Addr} {fd : FuncData} (F : Fun K "check_rule" "check_rule" s_check_rule f fd) (B : Bl mg) :
    FnW P w K mg base 1 f fd ["rule"] spRuleN := by
  refine okW F sc_check_rule (fun vs H Q E h => ?_) (fun cdv A outer s H vs Q E cc pn hw hr h => ?_)
  · obtain ⟨rfl, _⟩ := h
    rfl
  · obtain ⟨rfl, k⟩ := h
    have nd := sc_check_rule.nd
    refine ⟨_, (pss_one (ps_if (PW.pt (pw_and (pt_cmpR op_notNA (pv 0) pe_non (nomark _)) (pw_and1 pt_dead))) (pss_one (ps_dead)) pss_nil)), ?_⟩
    repeat walk_at "s"
    refine r_iteF rfl ?_
    refine r_iteF rfl ?_
    repeat walk_at "s"
    exact k
def spJNew (K : PySem.W.Frag) (CDisk CJ CC : Addr) : Sp := fun vs H Q _ => ∃ (j dx L d : Addr) (fd : List Addr) (num : Int) (slot n m : Nat) (D : DM), vs = [.ref j, .ref L, .ref d, .non] ∧ H j = some (.ins CJ dx []) ∧ DiskAt K CDisk H d fd n m D ∧ D.read 0 = hdD num slot ∧
  ∀ fj H', But [j] H H' → (∀ x ∈ fj, x = j ∨ H x = none) → JAt K CJ CC H' j L d none ⟨num, slot, [], [], []⟩ fj → Q .non H'
abbrev s_Journal_init : Stmt := inClass (top 34) 0
abbrev N_Journal_init : List Str := ["self", "layout", "disk", "without", "word", "number", "slot"]
theorem sc_Journal_init : FnScope N_Journal_init ["self", "layout", "disk", "without"] (defScope s_Journal_init) :=
  ⟨rfl, rfl, rfl, by decide +kernel, rfl, by decide +kernel, by decide +kernel⟩

theorem ok_Journal_init {f : Addr} {fd : FuncData} {kws : List (Str × V)} (F : FunD K "__init__" "Journal.__init__" (defArgs s_Journal_init) (defBody s_Journal_init) (defScope s_Journal_init) [] kws f fd) (T : TJn K CJ) (C_check_rule : ClW P w K mg base 1 "check_rule" spRuleN) (M_Disk_read : MetW P w K mg base 4 CDisk "read" (spRead K CDisk) []) :
    FnW P w K mg base 5 f fd ["self", "layout", "disk", "without"] (spJNew K CDisk CJ CC) := by
  refine okWD F sc_Journal_init (fun vs H Q E h => ?_) (fun cdv A outer s H vs Q E cc pn hw hr h => ?_)
  · obtain ⟨_, _, _, _, _, _, _, _, _, _, rfl, _⟩ := h
    rfl
  · obtain ⟨j, dx, L, d, fd, num, slot, n, m, D, rfl, hj, hD, hh, k⟩ := h
    have nd := sc_Journal_init.nd
    have hr : L2H.RoomH 4 _ := hr
    obtain ⟨cl, n1, n2, n3, n4, n5, n6, n7, n8⟩ := T
    obtain ⟨dxd, l1, l2, l3, l4, x1, x2, x3, x4, efd, hnd, h0, _⟩ := hD.ex
    have hn1 := hD.ok.n1
    refine ⟨_, (pss_cons (ps_expr (pe_clW C_check_rule hw hr (by omega) (pa_cons (pv 3) pa_nil)))
      (pss_cons (ps_asg (pe_mtW M_Disk_read hw hr (by omega) (pv 2) (pa_cons pe_int pa_nil)) (pg_tplW (K := K) (n := 3) hw (pgs_cons (pg_name (i := 4) nd rfl (by first | exact Or.inl rfl | exact Or.inr rfl)) (pgs_cons (pg_name (i := 5) nd rfl (by first | exact Or.inl rfl | exact Or.inr rfl)) (pgs_cons (pg_name (i := 6) nd rfl (by first | exact Or.inl rfl | exact Or.inr rfl)) pgs_nil)))))
      (pss_cons (ps_fldA (K := K) (pv 0) (pv 1))
      (pss_cons (ps_fldA (K := K) (pv 0) (pv 2))
      (pss_cons (ps_fldA (K := K) (pv 0) (pv 3))
      (pss_cons (ps_fldA (K := K) (pv 0) (pv 5))
      (pss_cons (ps_fldA (K := K) (pv 0) (pv 6))
      (pss_cons (ps_fldA (K := K) (pv 0) (pe_lst pa_nil))
      (pss_cons (ps_fldA (K := K) (pv 0) pe_dnewK)
      (pss_one (ps_fldA (K := K) (pv 0) pe_dnewK))))))))))), ?_⟩
    repeat walk_at "s"
    refine ⟨rfl, ?_⟩
    repeat walk_at "s"
    refine r_methAt h0 (by with_unfolding_all rfl) ?_
    repeat walk_at "s"
    refine ⟨d, fd, n, m, D, 0, rfl, hD, by omega, by omega, fun v hv => ?_⟩
    rw [hh] at hv
    obtain ⟨p, xs, rfl, g1, g2⟩ := Dn.tup_inv (ds := [.str "tail", .int num, .int slot]) hv
    obtain ⟨a, _, rfl, g3, g4⟩ := g2.cons_inv
    obtain ⟨b, _, rfl, g5, g6⟩ := g4.cons_inv
    obtain ⟨c, _, rfl, g7, g8⟩ := g6.cons_inv
    obtain rfl := g8.nil_inv
    obtain rfl := g3.str_inv
    obtain rfl := g5.int_inv
    obtain rfl := g7.int_inv
    repeat walk_at "s"
    refine r_setAt hj cl n1 (Nat.le_of_ble_eq_true rfl) (fun H1 b1 hj1 => ?_)
    repeat walk_at "s"
    refine r_setAt hj1 cl n2 (Nat.le_of_ble_eq_true rfl) (fun H2 b2 hj2 => ?_)
    repeat walk_at "s"
    refine r_setAt hj2 cl n3 (Nat.le_of_ble_eq_true rfl) (fun H3 b3 hj3 => ?_)
    repeat walk_at "s"
    refine r_setAt hj3 cl n4 (Nat.le_of_ble_eq_true rfl) (fun H4 b4 hj4 => ?_)
    repeat walk_at "s"
    refine r_setAt hj4 cl n5 (Nat.le_of_ble_eq_true rfl) (fun H5 b5 hj5 => ?_)
    repeat walk_at "s"
    refine r_newL (sz (Nat.le_of_ble_eq_true rfl)) (fun lk H6 hlk s6 hlk6 => ?_)
    repeat walk_at "s"
    refine r_setAt (by walk_at "hp") cl n6 (Nat.le_of_ble_eq_true rfl) (fun H7 b7 hj7 => ?_)
    repeat walk_at "s"
    refine r_dnew (fun dc H8 hdc s8 hdc8 => ?_)
    repeat walk_at "s"
    refine r_setAt (by walk_at "hp") cl n7 (Nat.le_of_ble_eq_true rfl) (fun H9 b9 hj9 => ?_)
    repeat walk_at "s"
    refine r_dnew (fun dr H10 hdr s10 hdr10 => ?_)
    repeat walk_at "s"
    refine r_setAt (by walk_at "hp") cl n8 (Nat.le_of_ble_eq_true rfl) (fun H11 b11 hj11 => ?_)
    have lvj : H j ≠ none := live_of hj
    have a1 : lk ≠ j := by walk_at "ne"
    have a2 : dc ≠ j := by walk_at "ne"
    have a3 : dr ≠ j := by walk_at "ne"
    have f1 : H11 lk = some (.lst []) := by walk_at "hp"
    have f2 : H11 dc = some (.dK []) := by walk_at "hp"
    have f3 : H11 dr = some (.dK []) := by walk_at "hp"
    refine k [j, lk, dc, dr] H11 (by walk_at "bt") (fun x hx => ?_) ⟨lk, dc, dr, [], rfl, ?_, ⟨_, hj11⟩, f1, ⟨[], f2, .nil⟩, ⟨[], f3, rfl⟩, rfl, fun i a k ha => (by simp at ha), by simp⟩
    rotate_left
    · have e1 : dc ≠ lk := fun z => live_of (b7.at hlk6 (by simpa using a1)) (z ▸ hdc)
      have f9 : H9 lk = some (.lst []) := by walk_at "hp"
      have e2 : dr ≠ lk := fun z => live_of f9 (z ▸ hdr)
      have f9b : H9 dc = some (.dK []) := by walk_at "hp"
      have e3 : dr ≠ dc := fun z => live_of f9b (z ▸ hdr)
      simp only [List.flatMap_nil, List.nodup_cons, List.mem_cons, List.not_mem_nil, or_false, not_or, not_false_eq_true, List.nodup_nil, and_true]
      exact ⟨⟨a1.symm, a2.symm, a3.symm⟩, ⟨e1.symm, e2.symm⟩, e3.symm⟩
    simp only [List.mem_cons, List.not_mem_nil, or_false] at hx
    rcases hx with rfl | rfl | rfl | rfl
    · exact .inl rfl
    · exact .inr (by walk_at "fr")
    · exact .inr (by walk_at "fr")
    · exact .inr (by walk_at "fr")
end
end L27

open PySem L2 PyProof.Rows J

namespace L27
/-! ### log, revoke -/
def logM (wo : Option Str) (home : Int) (v : PyData) (M : JM) : JM := { M with cop := putD M.cop home v, rev := if wo = some ("cancel" : Str) then M.rev else M.rev.filter fun x => decide (x ≠ home) }
def revM (wo : Option Str) (home : Int) (M : JM) : JM := { M with rev := if home ∈ M.rev then M.rev else M.rev ++ [home], cop := if wo = some ("drop" : Str) then M.cop else dropD M.cop home }
section
variable {P : Program} {w : World} {K : PySem.W.Frag} {mg : Str → Option Value} {base : Heap} {CDisk CLayout CJ CC : Addr} {H H' : Hp} {T : List Addr} {j L d lk dc dr : Addr} {wo : Option Str} {M : JM} {cks : List KA} {fj : List Addr}
theorem keys_put {kr : List (L2.Key × V)} {rs : List Int} {k : Int} {v : V} (h : kr.map (·.1) = rs.map Sum.inl) : (putK kr (.inl k) v).map (·.1) = (if k ∈ rs then rs else rs ++ [k]).map Sum.inl := by
  have ha : (kr.any fun kv => decide (kv.1 = (.inl k : L2.Key))) = decide (k ∈ rs) := by
    rw [Bool.eq_iff_iff, List.any_eq_true, decide_eq_true_iff]
    constructor
    · rintro ⟨q, hq, e⟩
      have h1 : q.1 ∈ kr.map (·.1) := List.mem_map.mpr ⟨q, hq, rfl⟩
      rw [h, of_decide_eq_true e] at h1
      obtain ⟨x, hx, e2⟩ := List.mem_map.mp h1
      rw [← Sum.inl.inj e2]; exact hx
    · intro hk
      have h1 : (Sum.inl k : L2.Key) ∈ kr.map (·.1) := by rw [h]; exact List.mem_map.mpr ⟨k, hk, rfl⟩
      obtain ⟨q, hq, e⟩ := List.mem_map.mp h1
      exact ⟨q, hq, decide_eq_true e⟩
  unfold putK
  rw [ha]
  by_cases hk : k ∈ rs
  · rw [decide_eq_true hk, if_pos rfl, if_pos hk, List.map_map, ← h]
    refine List.map_congr_left fun q _ => ?_
    simp only [Function.comp]
    split <;> rfl
  · rw [decide_eq_false hk, if_neg Bool.false_ne_true, if_neg hk, List.map_append, h, List.map_append]; rfl
theorem keys_drop {kr : List (L2.Key × V)} {rs : List Int} {k : Int} (h : kr.map (·.1) = rs.map Sum.inl) : (dropK kr (.inl k)).map (·.1) = (rs.filter fun x => decide (x ≠ k)).map Sum.inl := by
  unfold dropK
  induction kr generalizing rs with
  | nil =>
    cases rs with
    | nil => rfl
    | cons x r => simp at h
  | cons q kr ih =>
    cases rs with
    | nil => simp at h
    | cons x r =>
      rw [List.map_cons, List.map_cons, List.cons.injEq] at h
      obtain ⟨h1, h2⟩ := h
      by_cases e : x = k
      · rw [List.filter_cons_of_neg (by rw [h1, e]; simp), List.filter_cons_of_neg (by simpa using e)]; exact ih h2
      · rw [List.filter_cons_of_pos (by rw [h1]; simpa using e), List.filter_cons_of_pos (by simpa using e), List.map_cons, List.map_cons, ih h2, h1]
theorem drop_none {kr : List (L2.Key × V)} {k : L2.Key} (h : valV kr k = none) : dropK kr k = kr := by
  unfold dropK
  rw [List.filter_eq_self]
  intro q hq
  refine decide_eq_true fun e => ?_
  have := valV_any k kr
  rw [h] at this
  have h2 : (kr.any fun kv => decide (kv.1 = k)) = true := List.any_eq_true.mpr ⟨q, hq, decide_eq_true e⟩
  rw [h2] at this; cases this
/-- without != 'x' -/
theorem r_neRule {H : Hp} {Q : VK} {r : Str} (hr : PyData.strOk r = true) (q : Q (.bl (!decide (wo = some r))) H) : rNeA K (ruleV wo) (.str r) H Q := by
  cases wo with
  | some s =>
    refine r_neS ?_
    have e : decide (some s = some r) = decide (s = r) := by simp
    rw [e] at q; exact q
  | none =>
    refine r_neD (rule_dn (S := []) (H := H) Option.none).dp (Dn.str (S := []) r).dp rfl (Bool.and_eq_true_iff.mpr ⟨hr, rfl⟩) ?_
    have e : decide ((Option.none : Option Str) = some r) = false := by simp
    rw [e] at q; exact q
def spJLog (K : PySem.W.Frag) (CLayout CJ CC : Addr) : Sp := fun vs H Q _ => ∃ (j L d : Addr) (wo : Option Str) (M : JM) (fj : List Addr) (s h : Nat) (home : Int) (v : V) (dv : PyData), vs = [.ref j, .int home, v] ∧ JAt K CJ CC H j L d wo M fj ∧ LayAt CLayout H L s h ∧ 0 ≤ home ∧ home < h ∧
  Dn K [] H v dv ∧ RvOk dv ∧ M.cop.length ≤ 1000 ∧ ∀ H', But fj H H' → JAt K CJ CC H' j L d wo (logM wo home dv M) fj → Q .non H'
abbrev s_Journal_log : Stmt := inClass (top 34) 1
abbrev N_Journal_log : List Str := ["self", "home", "value"]
theorem sc_Journal_log : FnScope N_Journal_log ["self", "home", "value"] (defScope s_Journal_log) :=
  ⟨rfl, rfl, rfl, by decide +kernel, rfl, by decide +kernel, by decide +kernel⟩

theorem ok_Journal_log {f : Addr} {fd : FuncData} (F : Fun K "log" "Journal.log" s_Journal_log f fd) (G : Gi mg) (T : TJn K CJ) (M_Layout_home_block : MetW P w K mg base 3 CLayout "home_block" (spHomeBlock CLayout) []) (C_is_value : ClW P w K mg base 11 "is_value" (spVal K 9)) :
    FnW P w K mg base 12 f fd ["self", "home", "value"] (spJLog K CLayout CJ CC) := by
  refine okW F sc_Journal_log (fun vs H Q E h => ?_) (fun cdv A outer s H vs Q E cc pn hw hr h => ?_)
  · obtain ⟨_, _, _, _, _, _, _, _, _, _, _, rfl, _⟩ := h
    rfl
  · obtain ⟨j, L, d, wo, M, fj, sl, ho, home, v, dv, rfl, ⟨lk, dc, dr, cks, rfl, hJ⟩, hL, hh0, hh1, hv, rv, hcl, k⟩ := h
    obtain ⟨jnd, ⟨dx, h0⟩, h1, ⟨kc, h2, h2'⟩, ⟨kr, h3, h3'⟩, kl, kk, cv⟩ := id hJ
    have hu := hu_of hr
    have nd := sc_Journal_log.nd
    obtain ⟨cl, n1, n2, n3, n4, n5, n6, n7, n8⟩ := T
    obtain ⟨dl, hLx⟩ := hL.ex
    refine ⟨_, (pss_cons (ps_expr (pe_mtW M_Layout_home_block hw hr (by decide) (pe_fldA (K := K) (pv 0)) (pa_cons (pv 1) pa_nil)))
      (pss_cons (ps_if (pt_not (pt_tru (K := K) (pe_clW C_is_value hw hr (by decide) (pa_cons (pv 2) (pa_cons (pe_gintE rfl G.RECORD_DEPTH) pa_nil))))) (pss_one (ps_dead)) pss_nil)
      (pss_cons (ps_dput hu (pe_fldA (K := K) (pv 0)) (pv 1) (pv 2) rfl)
      (pss_one (ps_if (pt_cmpR (op_neA (K := K) hr.units) (pe_fldA (K := K) (pv 0)) pe_str (nomark _)) (pss_one (ps_expr (pe_dpop2 (pe_fldA (K := K) (pv 0)) (pv 1) pe_non ⟨rfl, rfl, rfl, rfl⟩))) pss_nil))))), ?_⟩
    repeat walk_at "s"
    refine r_methAt hLx (by with_unfolding_all rfl) ?_
    repeat walk_at "s"
    refine ⟨L, sl, ho, home, rfl, hL, hh0, hh1, ?_⟩
    repeat walk_at "s"
    refine ⟨v, [], dv, 1, rfl, hv, rv.slim, by decide, by decide, fun H1 s1 => ?_⟩
    rw [rv.v1]
    have h01 := s1 _ _ h0
    have h21 := s1 _ _ h2
    repeat walk_at "s"
    refine r_iteF rfl ?_
    repeat walk_at "s"
    refine r_dputD h21 (sz (by rw [h2'.length]; omega)) (fun H2 b2 hdc2 => ?_)
    have b02 : But [dc] H H2 := (But.of_same s1).trans b2
    have jn := jnd
    simp only [List.nodup_cons, List.mem_cons, not_or] at jn
    obtain ⟨⟨j1, j2, j3, j4⟩, ⟨j5, j6, j7⟩, ⟨j8, j9⟩, j10, j11⟩ := jn
    have h02 := b02.at h0 (by simpa using j2)
    have h12 := b02.at h1 (by simpa using j5)
    have h32 := b02.at h3 (by simpa using Ne.symm j8)
    have kv2 : KvD K [] H2 (putK kc (.inl home) v) (putD M.cop home dv) := (h2'.nlb (fun c hc => (cv c hc).nol) b02).put (hv.nlb rv.nol b02)
    have cv2 : ∀ c ∈ putD M.cop home dv, RvOk c.2 := fun c hc => by
      rcases putD_mem hc with hc | rfl
      · exact cv c hc
      · exact rv
    have kk2 : ∀ (T : List Addr) (H' : Hp), But T H2 H' → (∀ x ∈ cks.flatMap KA.all, x ∉ T) → ∀ (i : Nat) (a : KA) (k : Kp), cks[i]? = some a → M.kept[i]? = some k → KpAt K CC H' a k := fun T H' b n i a k ha hk =>
      ((kk i a k ha hk).but b02 fun x hx z => j9 (by rw [← List.mem_singleton.mp z]; exact ka_mem (List.mem_of_getElem? ha) hx)).but b fun x hx => n x (ka_mem (List.mem_of_getElem? ha) hx)
    have sub1 : ∀ z ∈ [dc], z ∈ jAll j lk dc dr cks := by simp [jAll]
    clear s1 h01 h21 b2
    repeat walk_at "s"
    refine r_neRule (by decide +kernel) ?_
    repeat walk_at "s"
    refine r_iteN (fun hw => ?_) (fun hw => ?_)
    · repeat walk_at "s"
      have fin : ∀ (H3 : Hp) (kr' : List (L2.Key × V)), But [dr] H2 H3 → H3 dr = some (.dK kr') → kr'.map (·.1) = (M.rev.filter fun x => decide (x ≠ home)).map Sum.inl → Q .non H3 := fun H3 kr' b3 hdr hk => by
        have b03 : But (jAll j lk dc dr cks) H H3 := (b02.sub sub1).trans (b3.sub (by simp [jAll]))
        have ndd : dc ≠ dr := j8
        refine k H3 b03 ⟨lk, dc, dr, cks, rfl, jnd, ⟨dx, b3.at h02 (by simpa using j3)⟩, b3.at h12 (by simpa using j6), ⟨_, b3.at hdc2 (by simpa using ndd), kv2.nlb (fun c hc => (cv2 c hc).nol) b3⟩, ⟨kr', hdr, ?_⟩, kl, kk2 [dr] H3 b3 (fun x hx z => j10 (by rw [← List.mem_singleton.mp z]; exact hx)), cv2⟩
        unfold logM
        rw [if_neg hw]; exact hk
      refine ⟨kr, .inl home, h32, rfl, fun v' hv' => ?_, fun hv' => ?_⟩
      · obtain ⟨H3, e3, b3, hdr3⟩ := upd_exK (o' := .dK (dropK kr (.inl home))) h32
        rw [e3]
        exact fin H3 _ b3 hdr3 (keys_drop h3')
      · exact fin H2 kr .refl h32 (by rw [← drop_none hv']; exact keys_drop h3')
    · refine k H2 (b02.sub sub1) ⟨lk, dc, dr, cks, rfl, jnd, ⟨dx, h02⟩, h12, ⟨_, hdc2, kv2⟩, ⟨kr, h32, ?_⟩, kl, kk2 [] H2 .refl (by simp), cv2⟩
      unfold logM
      rw [if_pos hw]; exact h3'
def spJRev (K : PySem.W.Frag) (CLayout CJ CC : Addr) : Sp := fun vs H Q _ => ∃ (j L d : Addr) (wo : Option Str) (M : JM) (fj : List Addr) (s h : Nat) (home : Int), vs = [.ref j, .int home] ∧ JAt K CJ CC H j L d wo M fj ∧ LayAt CLayout H L s h ∧ 0 ≤ home ∧ home < h ∧
  M.rev.length ≤ 1000 ∧ ∀ H', But fj H H' → JAt K CJ CC H' j L d wo (revM wo home M) fj → Q .non H'
abbrev s_Journal_revoke : Stmt := inClass (top 34) 2
abbrev N_Journal_revoke : List Str := ["self", "home"]
theorem sc_Journal_revoke : FnScope N_Journal_revoke ["self", "home"] (defScope s_Journal_revoke) :=
  ⟨rfl, rfl, rfl, by decide +kernel, rfl, by decide +kernel, by decide +kernel⟩

theorem ok_Journal_revoke {f : Addr} {fd : FuncData} (F : Fun K "revoke" "Journal.revoke" s_Journal_revoke f fd) (T : TJn K CJ) (M_Layout_home_block : MetW P w K mg base 3 CLayout "home_block" (spHomeBlock CLayout) []) :
    FnW P w K mg base 4 f fd ["self", "home"] (spJRev K CLayout CJ CC) := by
  refine okW F sc_Journal_revoke (fun vs H Q E h => ?_) (fun cdv A outer s H vs Q E cc pn hw hr h => ?_)
  · obtain ⟨_, _, _, _, _, _, _, _, _, rfl, _⟩ := h
    rfl
  · obtain ⟨j, L, d, wo, M, fj, sl, ho, home, rfl, ⟨lk, dc, dr, cks, rfl, hJ⟩, hL, hh0, hh1, hcl, k⟩ := h
    obtain ⟨jnd, ⟨dx, h0⟩, h1, ⟨kc, h2, h2'⟩, ⟨kr, h3, h3'⟩, kl, kk, cv⟩ := id hJ
    have hu := hu_of hr
    have nd := sc_Journal_revoke.nd
    obtain ⟨cl, n1, n2, n3, n4, n5, n6, n7, n8⟩ := T
    obtain ⟨dl, hLx⟩ := hL.ex
    have krl : kr.length = M.rev.length := by
      have := congrArg List.length h3'
      rw [List.length_map, List.length_map] at this
      exact this
    refine ⟨_, (pss_cons (ps_expr (pe_mtW M_Layout_home_block hw hr (by decide) (pe_fldA (K := K) (pv 0)) (pa_cons (pv 1) pa_nil)))
      (pss_cons (ps_dput hu (pe_fldA (K := K) (pv 0)) (pv 1) pe_bl rfl)
      (pss_one (ps_if (pt_cmpR (op_neA (K := K) hr.units) (pe_fldA (K := K) (pv 0)) pe_str (nomark _)) (pss_one (ps_expr (pe_dpop2 (pe_fldA (K := K) (pv 0)) (pv 1) pe_non ⟨rfl, rfl, rfl, rfl⟩))) pss_nil)))), ?_⟩
    repeat walk_at "s"
    refine r_methAt hLx (by with_unfolding_all rfl) ?_
    repeat walk_at "s"
    refine ⟨L, sl, ho, home, rfl, hL, hh0, hh1, ?_⟩
    repeat walk_at "s"
    refine r_dputD h3 (sz (by omega)) (fun H2 b02 hdr2 => ?_)
    have jn := jnd
    simp only [List.nodup_cons, List.mem_cons, not_or] at jn
    obtain ⟨⟨j1, j2, j3, j4⟩, ⟨j5, j6, j7⟩, ⟨j8, j9⟩, j10, j11⟩ := jn
    have h02 := b02.at h0 (by simpa using j3)
    have h12 := b02.at h1 (by simpa using j6)
    have h22 := b02.at h2 (by simpa using j8)
    have kv2 : KvD K [] H2 kc M.cop := h2'.nlb (fun c hc => (cv c hc).nol) b02
    have kk2 : ∀ (T : List Addr) (H' : Hp), But T H2 H' → (∀ x ∈ cks.flatMap KA.all, x ∉ T) → ∀ (i : Nat) (a : KA) (k : Kp), cks[i]? = some a → M.kept[i]? = some k → KpAt K CC H' a k := fun T H' b n i a k ha hk =>
      ((kk i a k ha hk).but b02 fun x hx z => j10 (by rw [← List.mem_singleton.mp z]; exact ka_mem (List.mem_of_getElem? ha) hx)).but b fun x hx => n x (ka_mem (List.mem_of_getElem? ha) hx)
    have sub1 : ∀ z ∈ [dr], z ∈ jAll j lk dc dr cks := by simp [jAll]
    have kr2 := keys_put (v := V.bl true) (k := home) h3'
    repeat walk_at "s"
    refine r_neRule (by decide +kernel) ?_
    repeat walk_at "s"
    refine r_iteN (fun hw => ?_) (fun hw => ?_)
    · repeat walk_at "s"
      have fin : ∀ (H3 : Hp) (kc' : List (L2.Key × V)), But [dc] H2 H3 → H3 dc = some (.dK kc') → KvD K [] H3 kc' (dropD M.cop home) → Q .non H3 := fun H3 kc' b3 hdc hk => by
        have b03 : But (jAll j lk dc dr cks) H H3 := (b02.sub sub1).trans (b3.sub (by simp [jAll]))
        refine k H3 b03 ⟨lk, dc, dr, cks, rfl, jnd, ⟨dx, b3.at h02 (by simpa using j2)⟩, b3.at h12 (by simpa using j5), ⟨kc', hdc, ?_⟩, ⟨_, b3.at hdr2 (by simpa using Ne.symm j8), kr2⟩, kl, kk2 [dc] H3 b3 (fun x hx z => j9 (by rw [← List.mem_singleton.mp z]; exact hx)), ?_⟩
        · unfold revM
          rw [if_neg hw]; exact hk
        · unfold revM
          rw [if_neg hw]
          exact fun c hc => cv c (dropD_mem hc).1
      refine ⟨kc, .inl home, h22, rfl, fun v' hv' => ?_, fun hv' => ?_⟩
      · obtain ⟨H3, e3, b3, hdc3⟩ := upd_exK (o' := .dK (dropK kc (.inl home))) h22
        rw [e3]
        exact fin H3 _ b3 hdc3 (kv2.drop.nlb (fun c hc => (cv c (dropD_mem hc).1).nol) b3)
      · exact fin H2 kc .refl h22 (by rw [← drop_none hv']; exact kv2.drop)
    · refine k H2 (b02.sub sub1) ⟨lk, dc, dr, cks, rfl, jnd, ⟨dx, h02⟩, h12, ⟨_, h22, ?_⟩, ⟨_, hdr2, kr2⟩, kl, kk2 [] H2 .refl (by simp), ?_⟩
      · unfold revM
        rw [if_pos hw]; exact kv2
      · unfold revM
        rw [if_pos hw]; exact cv
end
end L27

open PySem L2 PyProof.Rows J

namespace L27
/-! ### running -/
def sortI (l : List Int) : List Int := l.mergeSort fun a b => decide (a ≤ b)
theorem sortI_perm (l : List Int) : (sortI l).Perm l := List.mergeSort_perm _ _
theorem sortI_up (l : List Int) : (sortI l).Pairwise (· ≤ ·) := by
  have h := List.pairwise_mergeSort (le := fun a b : Int => decide (a ≤ b)) (fun a b c h1 h2 => decide_eq_true (Int.le_trans (of_decide_eq_true h1) (of_decide_eq_true h2)))
    (fun a b => by rw [Bool.or_eq_true, decide_eq_true_iff, decide_eq_true_iff]; omega) l
  exact h.imp fun h => of_decide_eq_true h
theorem sortI_eq {l m : List Int} (h : m.Perm l) (u : m.Pairwise (· ≤ ·)) : m = sortI l :=
  List.Perm.eq_of_pairwise (le := (· ≤ ·)) (fun a b _ _ h1 h2 => by omega) u (sortI_up l) (h.trans (sortI_perm l).symm)
def sortC (m : List (Int × PyData)) : List (Int × PyData) := (sortI (m.map (·.1))).map fun k => (k, (getD' m k).getD .none)
theorem sortI_len (l : List Int) : (sortI l).length = l.length := (sortI_perm l).length_eq
theorem sortC_len (m : List (Int × PyData)) : (sortC m).length = m.length := by
  unfold sortC
  rw [List.length_map, sortI_len, List.length_map]
theorem mem_keys {m : List (Int × PyData)} {k : Int} (h : k ∈ m.map (·.1)) : ∃ d, getD' m k = some d := by
  have h2 : hasD m k = true := by
    obtain ⟨c, hc, e⟩ := List.mem_map.mp h
    unfold hasD
    rw [List.any_eq_true]
    exact ⟨c, hc, decide_eq_true e⟩
  rw [hasD_get] at h2
  exact Option.isSome_iff_exists.mp h2
theorem sortC_mem {m : List (Int × PyData)} {c : Int × PyData} (h : c ∈ sortC m) : c ∈ m := by
  obtain ⟨k, hk, rfl⟩ := List.mem_map.mp h
  obtain ⟨d, hd⟩ := mem_keys ((sortI_perm _).mem_iff.mp hk)
  rw [hd]
  exact getD_mem hd
section
variable {P : Program} {w : World} {K : PySem.W.Frag} {mg : Str → Option Value} {base : Heap} {CDisk CLayout CJ CC : Addr} {H H' : Hp} {T : List Addr} {j L d lk dc dr : Addr} {wo : Option Str} {M : JM} {cks : List KA} {fj : List Addr}
theorem r_sortedDI {H : Hp} {Q : VK} {a : Addr} {kvs : List (L2.Key × V)} {ks : List Int} (h : H a = some (.dK kvs)) (hk : kvs.map (·.1) = ks.map Sum.inl) (hz : ks.length < 1000) (k : ∀ l H', H l = none → Same H H' → H' l = some (.lst ((sortI ks).map V.int)) → Q (.ref l) H') : rSortedDI [.ref a] H Q :=
  ⟨a, kvs, ks, rfl, h, hk, hz, fun ys p hp up hl => by
    rw [sortI_eq hp up]
    exact k p _ hl (But.new (S := []) hl).same upd_same⟩
def spJRun (K : PySem.W.Frag) (CJ CC : Addr) : Sp := fun vs H Q _ => ∃ (j L d : Addr) (wo : Option Str) (M : JM) (fj : List Addr), vs = [.ref j] ∧ JAt K CJ CC H j L d wo M fj ∧ M.cop.length < 1000 ∧ M.rev.length < 1000 ∧
  ∀ t a b xs H', Same H H' → SqT K H' t [.ref a, .ref b] → H a = none → H b = none → H' a = some (.lst xs) → DnAll K [] H' xs ((sortC M.cop).map dWr) → H' b = some (.lst ((sortI M.rev).map V.int)) → Q (.ref t) H'
abbrev s_Journal_running : Stmt := inClass (top 34) 3
abbrev N_Journal_running : List Str := ["self", "home"]
theorem sc_Journal_running : FnScope N_Journal_running ["self"] (defScope s_Journal_running) :=
  ⟨rfl, rfl, rfl, by decide +kernel, rfl, by decide +kernel, by decide +kernel⟩

theorem ok_Journal_running {f : Addr} {fd : FuncData} (F : Fun K "running" "Journal.running" s_Journal_running f fd) (B : Bl mg) (T : TJn K CJ) :
    FnW P w K mg base 1 f fd ["self"] (spJRun K CJ CC) := by
  refine okW F sc_Journal_running (fun vs H Q E h => ?_) (fun cdv A outer s H vs Q E cc pn hw hr h => ?_)
  · obtain ⟨_, _, _, _, _, _, rfl, _⟩ := h
    rfl
  · obtain ⟨j, L, d, wo, M, fj, rfl, ⟨lk, dc, dr, cks, rfl, hJ⟩, hcl, hrl, k⟩ := h
    obtain ⟨jnd, ⟨dx, h0⟩, h1, ⟨kc, h2, h2'⟩, ⟨kr, h3, h3'⟩, kl, kk, cv⟩ := id hJ
    have hu := hu_of hr
    have nd := sc_Journal_running.nd
    obtain ⟨cl, n1, n2, n3, n4, n5, n6, n7, n8⟩ := T
    refine ⟨_, (pss_one (ps_ret (pe_tup (pa_cons (pe_lcW (own := [("home", 1)]) (g := (gName 1)) (tt := tYes) hw nd (pi_lstW (K := K) (pe_callB (cr_sortedDIW hw) rfl B.sorted (by decide +kernel) (pa_cons (pe_fldA (K := K) (pv 0)) pa_nil))) (blkOk_by (own := [("home", 1)]) (N := N_Journal_running) (sc := defScope s_Journal_running) (by decide +kernel)) (fun _ _ _ _ _ _ hw => (pg_name (i := 1) nd rfl (by first | exact Or.inl rfl | exact Or.inr rfl))) (fun _ _ _ _ _ _ hw => pts_nil) (fun _ _ _ _ _ _ hw => pe_tup (pa_cons (pv 1) (pa_cons (pe_dget hu (pe_fldA (K := K) (pv 0)) (pv 1) (fun _ _ => rfl)) pa_nil)))) (pa_cons (pe_callB (cr_sortedDIW hw) rfl B.sorted (by decide +kernel) (pa_cons (pe_fldA (K := K) (pv 0)) pa_nil)) pa_nil))))), ?_⟩
    repeat walk_at "s"
    refine r_sortedDI h2 h2'.keys (by rw [List.length_map]; exact hcl) (fun a H1 ha s1 ha1 => ?_)
    refine lcL (.of ha1) (fun q H2 hq s2 hq2 => ?_)
    have naq : a ≠ q := ne_of_none ha1 hq
    have ndq : dc ≠ q := fun z => live_of (s1 _ _ h2) (z ▸ hq)
    have njq : j ≠ q := fun z => live_of (s1 _ _ h0) (z ▸ hq)
    have nlc : ∀ c ∈ M.cop, noL c.2 = true := fun c hc => (cv c hc).nol
    refine ⟨fun i H' => ∃ xs, But [q] H2 H' ∧ H' q = some (.lst xs) ∧ DnAll K [] H' xs (((sortC M.cop).take i).map dWr), ⟨[], .refl, hq2, .nil⟩, ?_, ?_, ?_⟩
    · rintro i H3 hi ⟨xs, b3, hq3, hxs⟩
      exact .of (b3.at (s2 _ _ ha1) (by simpa using naq))
    · rintro i y H3 hi ⟨xs, b3, hq3, hxs⟩
      obtain ⟨x, hx, rfl⟩ := map_getG hi
      obtain ⟨dv, hdv⟩ := mem_keys ((sortI_perm _).mem_iff.mp (List.mem_of_getElem? hx))
      have bH3 : But [q] H H3 := ((But.of_same s1).trans (But.of_same s2)).trans b3
      obtain ⟨v, hv, hvd⟩ := (h2'.nlb (S' := []) nlc bH3).some hdv
      have h23 := bH3.at h2 (by simpa using ndq)
      have h03 := bH3.at h0 (by simpa using njq)
      have hil := (List.getElem?_eq_some_iff.mp hx).1
      have xl : xs.length < 1000 := by
        rw [hxs.length, List.length_map, List.length_take, sortC_len]; omega
      have nlt : noLs (((sortC M.cop).take i).map dWr) = true := noLs_map fun c hc => nol_dWr (nlc c (sortC_mem (List.mem_of_mem_take hc)))
      have ndv := nlc _ (getD_mem hdv)
      repeat walk_at "s"
      refine ⟨rfl, ?_⟩
      refine r_yes ?_
      refine r_iteT rfl ?_
      repeat walk_at "s"
      refine r_dAt h23 hv ?_
      repeat walk_at "s"
      refine r_newT (sz (Nat.le_of_ble_eq_true rfl)) (fun T H4 hT s4 hT4 => ?_)
      refine ⟨_, s4 _ _ hq3, szl (by omega), ?_⟩
      obtain ⟨H5, e5, b5, hq5⟩ := upd_ex (o' := .lst (xs ++ [.ref T])) (s4 _ _ hq3)
      rw [e5]
      have b35 : But [q] H3 H5 := (But.of_same s4).trans b5
      refine ⟨_, b3.trans b35, hq5, ?_⟩
      have etk : (sortC M.cop).take (i + 1) = (sortC M.cop).take i ++ [(x, dv)] := by
        rw [List.take_add_one]
        have e : (sortC M.cop)[i]? = some (x, dv) := by
          unfold sortC
          rw [List.getElem?_map, hx]
          show some (x, (getD' M.cop x).getD .none) = _
          rw [hdv]; rfl
        rw [e]; rfl
      rw [etk, List.map_append]
      exact (hxs.nlb nlt b35).snoc (.tup (SqT.of (b5.tup hT4)) (.cons (.int _) (.one (hvd.nlb ndv b35))))
    rintro H3 ⟨xs, b3, hq3, hxs⟩
    rw [List.length_map, sortI_len, List.length_map, ← sortC_len, List.take_length] at hxs
    have fq : H q = none := (But.of_same (S := []) s1).free hq
    have s03 : Same H H3 := (bt_but (But.of_same fun b o e => s2 b o (s1 b o e)) b3 (bc_fr fq bc_nil) : But [] H H3).same
    clear b3 s1 s2 hq2 ha1
    repeat walk_at "s"
    refine r_sortedDI (s03 _ _ h3) h3' hrl (fun b H4 hb s4 hb4 => ?_)
    repeat walk_at "s"
    refine r_newT (sz (Nat.le_of_ble_eq_true rfl)) (fun t H5 ht s5 ht5 => ?_)
    exact k t q b xs H5 (fun b o e => s5 b o (s4 b o (s03 b o e))) (.of ht5) fq ((But.of_same (S := []) s03).free hb) (s5 _ _ (s4 _ _ hq3)) ((hxs.same s4).same s5) (s5 _ _ hb4)
end
end L27

open PySem L2 PyProof.Rows J

namespace L27
/-! ### numbers, free slots -/
def firstM (M : JM) : Int := match M.kept with
  | k :: _ => k.num
  | [] => M.next
def sumSz (ks : List Kp) : Nat := (ks.map (·.size)).sum
theorem sumSz_int (ks : List Kp) : (ks.map fun k => (k.size : Int)).sum = (sumSz ks : Int) := by
  unfold sumSz
  induction ks with
  | nil => rfl
  | cons k r ih => rw [List.map_cons, List.sum_cons, ih, List.map_cons, List.sum_cons]; omega
section
variable {P : Program} {w : World} {K : PySem.W.Frag} {mg : Str → Option Value} {base : Heap} {CDisk CLayout CJ CC : Addr} {H H' : Hp} {T : List Addr} {j L d lk dc dr : Addr} {wo : Option Str} {M : JM} {cks : List KA} {fj : List Addr}
def spJNums (K : PySem.W.Frag) (CJ CC : Addr) : Sp := fun vs H Q _ => ∃ (j L d : Addr) (wo : Option Str) (M : JM) (fj : List Addr), vs = [.ref j] ∧ JAt K CJ CC H j L d wo M fj ∧ ∀ t H', Same H H' → SqT K H' t [.int (firstM M), .int M.next] → Q (.ref t) H'
abbrev s_Journal_numbers : Stmt := inClass (top 34) 5
abbrev N_Journal_numbers : List Str := ["self"]
theorem sc_Journal_numbers : FnScope N_Journal_numbers ["self"] (defScope s_Journal_numbers) :=
  ⟨rfl, rfl, rfl, by decide +kernel, rfl, by decide +kernel, by decide +kernel⟩

theorem ok_Journal_numbers {f : Addr} {fd : FuncData} (F : Fun K "numbers" "Journal.numbers" s_Journal_numbers f fd) (T : TJn K CJ) (TK : TKp K CC) :
    FnW P w K mg base 1 f fd ["self"] (spJNums K CJ CC) := by
  refine okW F sc_Journal_numbers (fun vs H Q E h => ?_) (fun cdv A outer s H vs Q E cc pn hw hr h => ?_)
  · obtain ⟨_, _, _, _, _, _, rfl, _⟩ := h
    rfl
  · obtain ⟨j, L, d, wo, M, fj, rfl, ⟨lk, dc, dr, cks, rfl, hJ⟩, k⟩ := h
    obtain ⟨jnd, ⟨dx, h0⟩, h1, ⟨kc, h2, h2'⟩, ⟨kr, h3, h3'⟩, kl, kk, cv⟩ := id hJ
    have nd := sc_Journal_numbers.nd
    obtain ⟨cl, n1, n2, n3, n4, n5, n6, n7, n8⟩ := T
    obtain ⟨tc, m1, m2, m3, m4, m5⟩ := TK
    refine ⟨_, (pss_cons (ps_if (pt_tru (K := K) (pe_fldA (K := K) (pv 0))) (pss_one (ps_ret (pe_tup (pa_cons (pe_fldA (K := K) (pe_ix (ix_any (K := K)) (pe_fldA (K := K) (pv 0)) pe_int (fun _ _ => rfl))) (pa_cons (pe_fldA (K := K) (pv 0)) pa_nil))))) pss_nil)
      (pss_one (ps_ret (pe_tup (pa_cons (pe_fldA (K := K) (pv 0)) (pa_cons (pe_fldA (K := K) (pv 0)) pa_nil)))))), ?_⟩
    repeat walk_at "s"
    refine ⟨_, .inl ⟨_, .of h1, rfl⟩, ?_⟩
    cases cks with
    | nil =>
      have e : M.kept = [] := List.length_eq_zero_iff.mp (by rw [← kl]; rfl)
      refine r_iteF rfl ?_
      repeat walk_at "s"
      refine r_newT (sz (Nat.le_of_ble_eq_true rfl)) (fun t H1 ht s1 ht1 => ?_)
      refine k t H1 s1 ?_
      unfold firstM
      rw [e]; exact .of ht1
    | cons a r =>
      obtain ⟨kp, kr', e⟩ : ∃ kp kr, M.kept = kp :: kr := by
        cases hk : M.kept with
        | nil => rw [hk] at kl; cases kl
        | cons kp kr => exact ⟨kp, kr, rfl⟩
      obtain ⟨dxc, kvs, g0, _⟩ := kk 0 a kp rfl (by rw [e]; rfl)
      refine r_iteT rfl ?_
      repeat walk_at "s"
      refine r_ixL (.of h1) (atI_nat (j := 0) rfl) ?_
      repeat walk_at "s"
      refine r_newT (sz (Nat.le_of_ble_eq_true rfl)) (fun t H1 ht s1 ht1 => ?_)
      refine k t H1 s1 ?_
      unfold firstM
      rw [e]; exact .of ht1
def spJFree (CLayout : Addr) (K : PySem.W.Frag) (CJ CC : Addr) (g : Nat → JM → Int) : Sp := fun vs H Q _ => ∃ (j L d : Addr) (wo : Option Str) (M : JM) (fj : List Addr) (s h : Nat), vs = [.ref j] ∧ JAt K CJ CC H j L d wo M fj ∧ LayAt CLayout H L s h ∧ M.kept.length ≤ 1000 ∧ ∀ H', Same H H' → Q (.int (g s M)) H'
theorem sizes_lc {H1 : Hp} {q : Addr} {i : Nat} {ks : List Kp} (h : i ≤ ks.length) : (((ks.take i).map fun k => (k.size : Int)).map V.int).length ≤ ks.length := by
  rw [List.length_map, List.length_map, List.length_take]; omega
abbrev s_Journal_free_slots : Stmt := inClass (top 34) 6
abbrev N_Journal_free_slots : List Str := ["self", "one"]
theorem sc_Journal_free_slots : FnScope N_Journal_free_slots ["self"] (defScope s_Journal_free_slots) :=
  ⟨rfl, rfl, rfl, by decide +kernel, rfl, by decide +kernel, by decide +kernel⟩

theorem ok_Journal_free {f : Addr} {fd : FuncData} (F : Fun K "free_slots" "Journal.free_slots" s_Journal_free_slots f fd) (B : Bl mg) (T : TJn K CJ) (TK : TKp K CC) (M_Layout_slots : MetW P w K mg base 1 CLayout "slots" (spLayI CLayout fun s _ => s) []) :
    FnW P w K mg base 2 f fd ["self"] (spJFree CLayout K CJ CC fun s M => (s : Int) - sumSz M.kept) := by
  refine okW F sc_Journal_free_slots (fun vs H Q E h => ?_) (fun cdv A outer s H vs Q E cc pn hw hr h => ?_)
  · obtain ⟨_, _, _, _, _, _, _, _, rfl, _⟩ := h
    rfl
  · obtain ⟨j, L, d, wo, M, fj, sl, ho, rfl, ⟨lk, dc, dr, cks, rfl, hJ⟩, hL, hkl, k⟩ := h
    obtain ⟨jnd, ⟨dx, h0⟩, h1, ⟨kc, h2, h2'⟩, ⟨kr, h3, h3'⟩, kl, kk, cv⟩ := id hJ
    have nd := sc_Journal_free_slots.nd
    obtain ⟨cl, n1, n2, n3, n4, n5, n6, n7, n8⟩ := T
    obtain ⟨tc, m1, m2, m3, m4, m5⟩ := TK
    obtain ⟨dl, hLx⟩ := hL.ex
    refine ⟨_, (pss_one (ps_ret (pe_op op_sub (pe_mtW0 M_Layout_slots hw hr (by decide) (pe_fldA (K := K) (pv 0))) (pe_callB (call_sumW (K := K) hw) rfl B.sum (by decide +kernel) (pa_cons (pe_lcW (own := [("one", 1)]) (g := (gName 1)) (tt := tYes) hw nd (pi_lstW (K := K) (pe_fldA (K := K) (pv 0))) (blkOk_by (own := [("one", 1)]) (N := N_Journal_free_slots) (sc := defScope s_Journal_free_slots) (by decide +kernel)) (fun _ _ _ _ _ _ hw => (pg_name (i := 1) nd rfl (by first | exact Or.inl rfl | exact Or.inr rfl))) (fun _ _ _ _ _ _ hw => pts_nil) (fun _ _ _ _ _ _ hw => pe_fldA (K := K) (pv 1))) pa_nil))))), ?_⟩
    repeat walk_at "s"
    refine r_methAt hLx (by with_unfolding_all rfl) ?_
    repeat walk_at "s"
    refine ⟨L, sl, ho, rfl, hL, ?_⟩
    dsimp only
    repeat walk_at "s"
    refine lcL (.of h1) (fun q H1 hq s1 hq1 => ?_)
    have nlq : lk ≠ q := ne_of_none h1 hq
    refine ⟨fun i H' => But [q] H1 H' ∧ H' q = some (.lst (((M.kept.take i).map fun k => (k.size : Int)).map V.int)), ⟨.refl, hq1⟩, ?_, ?_, ?_⟩
    · rintro i H2 hi ⟨b2, hq2⟩
      exact .of (b2.at (s1 _ _ h1) (by simpa using nlq))
    · rintro i y H2 hi ⟨b2, hq2⟩
      obtain ⟨a, ha, rfl⟩ := map_getG hi
      have hil := (List.getElem?_eq_some_iff.mp ha).1
      obtain ⟨kp, hkp⟩ : ∃ kp, M.kept[i]? = some kp := ⟨_, List.getElem?_eq_getElem (by omega)⟩
      obtain ⟨dxc, kvs, g0, _⟩ := kk i a kp ha hkp
      have ncq : a.c ≠ q := ne_of_none g0 hq
      have g02 := b2.at (s1 _ _ g0) (by simpa using ncq)
      repeat walk_at "s"
      refine ⟨rfl, ?_⟩
      refine r_yes ?_
      refine r_iteT rfl ?_
      repeat walk_at "s"
      refine ⟨_, hq2, szl (by simp only [List.length_map, List.length_take]; omega), ?_⟩
      obtain ⟨H3, e3, b3, hq3⟩ := upd_ex (o' := .lst ((((M.kept.take i).map fun k => (k.size : Int)).map V.int) ++ [.int kp.size])) hq2
      rw [e3]
      refine ⟨b2.trans b3, ?_⟩
      rw [hq3, List.take_add_one, hkp, List.map_append, List.map_append]; rfl
    rintro H2 ⟨b2, hq2⟩
    rw [List.length_map, kl, List.take_length] at hq2
    have s02 : Same H H2 := (bt_but (But.of_same s1) b2 (bc_fr hq bc_nil) : But [] H H2).same
    repeat walk_at "s"
    refine ⟨q, _, rfl, .of hq2, ?_⟩
    refine ⟨_, _, rfl, rfl, ?_⟩
    rw [sumSz_int]
    exact k H2 s02
abbrev s_Journal_tail_slot : Stmt := inClass (top 34) 11
abbrev N_Journal_tail_slot : List Str := ["self", "one"]
theorem sc_Journal_tail_slot : FnScope N_Journal_tail_slot ["self"] (defScope s_Journal_tail_slot) :=
  ⟨rfl, rfl, rfl, by decide +kernel, rfl, by decide +kernel, by decide +kernel⟩

theorem ok_Journal_tail {f : Addr} {fd : FuncData} (F : Fun K "tail_slot" "Journal.tail_slot" s_Journal_tail_slot f fd) (B : Bl mg) (T : TJn K CJ) (TK : TKp K CC) (M_Layout_slots : MetW P w K mg base 1 CLayout "slots" (spLayI CLayout fun s _ => s) []) :
    FnW P w K mg base 2 f fd ["self"] (spJFree CLayout K CJ CC fun s M => ((M.head : Int) - sumSz M.kept) % s) := by
  refine okW F sc_Journal_tail_slot (fun vs H Q E h => ?_) (fun cdv A outer s H vs Q E cc pn hw hr h => ?_)
  · obtain ⟨_, _, _, _, _, _, _, _, rfl, _⟩ := h
    rfl
  · obtain ⟨j, L, d, wo, M, fj, sl, ho, rfl, ⟨lk, dc, dr, cks, rfl, hJ⟩, hL, hkl, k⟩ := h
    obtain ⟨jnd, ⟨dx, h0⟩, h1, ⟨kc, h2, h2'⟩, ⟨kr, h3, h3'⟩, kl, kk, cv⟩ := id hJ
    have nd := sc_Journal_tail_slot.nd
    have hs8 := hL.s1
    obtain ⟨cl, n1, n2, n3, n4, n5, n6, n7, n8⟩ := T
    obtain ⟨tc, m1, m2, m3, m4, m5⟩ := TK
    refine ⟨_, (pss_one (ps_ret (pe_op op_mod (pe_op op_sub (pe_fldA (K := K) (pv 0)) (pe_callB (call_sumW (K := K) hw) rfl B.sum (by decide +kernel) (pa_cons (pe_lcW (own := [("one", 1)]) (g := (gName 1)) (tt := tYes) hw nd (pi_lstW (K := K) (pe_fldA (K := K) (pv 0))) (blkOk_by (own := [("one", 1)]) (N := N_Journal_tail_slot) (sc := defScope s_Journal_tail_slot) (by decide +kernel)) (fun _ _ _ _ _ _ hw => (pg_name (i := 1) nd rfl (by first | exact Or.inl rfl | exact Or.inr rfl))) (fun _ _ _ _ _ _ hw => pts_nil) (fun _ _ _ _ _ _ hw => pe_fldA (K := K) (pv 1))) pa_nil))) (pe_mtW0 M_Layout_slots hw hr (by decide) (pe_fldA (K := K) (pv 0)))))), ?_⟩
    repeat walk_at "s"
    refine lcL (.of h1) (fun q H1 hq s1 hq1 => ?_)
    have nlq : lk ≠ q := ne_of_none h1 hq
    refine ⟨fun i H' => But [q] H1 H' ∧ H' q = some (.lst (((M.kept.take i).map fun k => (k.size : Int)).map V.int)), ⟨.refl, hq1⟩, ?_, ?_, ?_⟩
    · rintro i H2 hi ⟨b2, hq2⟩
      exact .of (b2.at (s1 _ _ h1) (by simpa using nlq))
    · rintro i y H2 hi ⟨b2, hq2⟩
      obtain ⟨a, ha, rfl⟩ := map_getG hi
      have hil := (List.getElem?_eq_some_iff.mp ha).1
      obtain ⟨kp, hkp⟩ : ∃ kp, M.kept[i]? = some kp := ⟨_, List.getElem?_eq_getElem (by omega)⟩
      obtain ⟨dxc, kvs, g0, _⟩ := kk i a kp ha hkp
      have ncq : a.c ≠ q := ne_of_none g0 hq
      have g02 := b2.at (s1 _ _ g0) (by simpa using ncq)
      repeat walk_at "s"
      refine ⟨rfl, ?_⟩
      refine r_yes ?_
      refine r_iteT rfl ?_
      repeat walk_at "s"
      refine ⟨_, hq2, szl (by simp only [List.length_map, List.length_take]; omega), ?_⟩
      obtain ⟨H3, e3, b3, hq3⟩ := upd_ex (o' := .lst ((((M.kept.take i).map fun k => (k.size : Int)).map V.int) ++ [.int kp.size])) hq2
      rw [e3]
      refine ⟨b2.trans b3, ?_⟩
      rw [hq3, List.take_add_one, hkp, List.map_append, List.map_append]; rfl
    rintro H2 ⟨b2, hq2⟩
    rw [List.length_map, kl, List.take_length] at hq2
    have s02 : Same H H2 := (bt_but (But.of_same s1) b2 (bc_fr hq bc_nil) : But [] H H2).same
    have hL2 := hL.same s02
    obtain ⟨dl, hLx⟩ := hL2.ex
    clear b2 s1 hq1
    repeat walk_at "s"
    refine ⟨q, _, rfl, .of hq2, ?_⟩
    refine ⟨_, _, rfl, rfl, ?_⟩
    rw [sumSz_int]
    repeat walk_at "s"
    refine r_methAt hLx (by with_unfolding_all rfl) ?_
    repeat walk_at "s"
    refine ⟨L, sl, ho, rfl, hL2, ?_⟩
    dsimp only
    repeat walk_at "s"
    exact k H2 s02
def spJFlush (K : PySem.W.Frag) (CDisk CJ CC : Addr) : Sp := fun vs H Q _ => ∃ (j L d : Addr) (wo : Option Str) (M : JM) (fj fd : List Addr) (n m : Nat) (D : DM) (r : Str), vs = [.ref j, .str r] ∧ JAt K CJ CC H j L d wo M fj ∧ DiskAt K CDisk H d fd n m D ∧ m < 1000000 ∧ PyData.strOk r = true ∧
  ∀ H', But fd H H' → DiskAt K CDisk H' d fd n (m + 1) (if wo = some r then D else D.flush) → Q .non H'
abbrev s_Journal_flush_by : Stmt := inClass (top 34) 8
abbrev N_Journal_flush_by : List Str := ["self", "rule"]
theorem sc_Journal_flush_by : FnScope N_Journal_flush_by ["self", "rule"] (defScope s_Journal_flush_by) :=
  ⟨rfl, rfl, rfl, by decide +kernel, rfl, by decide +kernel, by decide +kernel⟩

theorem ok_Journal_flush_by {f : Addr} {fd : FuncData} (F : Fun K "flush_by" "Journal.flush_by" s_Journal_flush_by f fd) (T : TJn K CJ) (M_Disk_flush : MetW P w K mg base 1 CDisk "flush" (spFlush K CDisk) []) :
    FnW P w K mg base 2 f fd ["self", "rule"] (spJFlush K CDisk CJ CC) := by
  refine okW F sc_Journal_flush_by (fun vs H Q E h => ?_) (fun cdv A outer s H vs Q E cc pn hw hr h => ?_)
  · obtain ⟨_, _, _, _, _, _, _, _, _, _, _, rfl, _⟩ := h
    rfl
  · obtain ⟨j, L, d, wo, M, fj, fd, n, m, D, r, rfl, ⟨lk, dc, dr, cks, rfl, hJ⟩, hD, hm, hrk, k⟩ := h
    obtain ⟨jnd, ⟨dx, h0⟩, h1, ⟨kc, h2, h2'⟩, ⟨kr, h3, h3'⟩, kl, kk, cv⟩ := id hJ
    have nd := sc_Journal_flush_by.nd
    obtain ⟨cl, n1, n2, n3, n4, n5, n6, n7, n8⟩ := T
    obtain ⟨dxd, l1, l2, l3, l4, x1, x2, x3, x4, efd, hnd, g0, _⟩ := id hD.ex
    refine ⟨_, (pss_one (ps_if (pt_cmpR (op_neA (K := K) hr.units) (pe_fldA (K := K) (pv 0)) (pv 1) (nomark _)) (pss_one (ps_expr (pe_mtW0 M_Disk_flush hw hr (by decide) (pe_fldA (K := K) (pv 0))))) pss_nil)), ?_⟩
    repeat walk_at "s"
    refine r_neRule hrk ?_
    repeat walk_at "s"
    refine r_iteN (fun hw => ?_) (fun hw => ?_)
    · repeat walk_at "s"
      refine r_methAt g0 (by with_unfolding_all rfl) ?_
      repeat walk_at "s"
      refine ⟨d, fd, _, _, D, rfl, hD, hm, fun H1 b1 hD1 => ?_⟩
      exact k H1 b1 (by rw [if_neg hw]; exact hD1)
    · exact k H .refl (by rw [if_pos hw]; exact hD.mono (by omega))
end
end L27

open PySem L2 PyProof.Rows J

namespace L27
/-! ### the needed revokes -/
def numsOf (M : JM) (home : Int) : List Int := (M.kept.filter fun k => hasD k.cs home).map (·.num)
def covOf (M : JM) (home : Int) : List Int := (M.kept.filter fun k => decide (home ∈ k.rs)).map (·.num)
def isNeed (M : JM) (home : Int) : Bool := match (numsOf M home).getLast? with
  | none => false
  | some n => match (covOf M home).getLast? with
    | none => true
    | some c => decide (c < n)
def needM (M : JM) : List Int := (sortI M.rev).filter (isNeed M)
section
variable {P : Program} {w : World} {K : PySem.W.Frag} {mg : Str → Option Value} {base : Heap} {CDisk CLayout CJ CC : Addr} {H H' : Hp} {T : List Addr} {j L d lk dc dr : Addr} {wo : Option Str} {M : JM} {cks : List KA} {fj : List Addr}
def spNeed (K : PySem.W.Frag) (CJ CC : Addr) : Sp := fun vs H Q _ => ∃ (j L d : Addr) (wo : Option Str) (M : JM) (fj : List Addr), vs = [.ref j] ∧ JAt K CJ CC H j L d wo M fj ∧ M.cop.length < 1000 ∧ M.rev.length < 1000 ∧ M.kept.length ≤ 1000 ∧
  ∀ l H', Same H H' → H l = none → H' l = some (.lst ((needM M).map V.int)) → Q (.ref l) H'
theorem dinO {S : List Addr} {a : Addr} {kvs : List (L2.Key × V)} {m : List (Int × PyData)} {k : Int} (h : H a = some (.dK kvs)) (hm : KvD K S H kvs m) : ∃ o, DGet H a (.int k) o ∧ o.isSome = hasD m k :=
  ⟨_, DGet.k (k := .inl k) h, by rw [← valV_any, hm.any k]⟩
theorem need_nil (M : JM) (home : Int) (h : numsOf M home = []) : isNeed M home = false := by
  unfold isNeed
  rw [h]; rfl
theorem need_one (M : JM) (home : Int) {xs : List Int} {x : Int} (h : numsOf M home = xs ++ [x]) (h2 : covOf M home = []) : isNeed M home = true := by
  unfold isNeed
  rw [h, h2, List.getLast?_concat]; rfl
theorem need_two (M : JM) (home : Int) {xs ys : List Int} {x y : Int} (h : numsOf M home = xs ++ [x]) (h2 : covOf M home = ys ++ [y]) : isNeed M home = decide (y < x) := by
  unfold isNeed
  rw [h, h2, List.getLast?_concat, List.getLast?_concat]
abbrev s_needed : Stmt := top 35
abbrev N_needed : List Str := ["journal", "found", "home", "numbers", "covered", "one"]
theorem sc_needed : FnScope N_needed ["journal"] (defScope s_needed) :=
  ⟨rfl, rfl, rfl, by decide +kernel, rfl, by decide +kernel, by decide +kernel⟩

theorem ok_needed {f : Addr} {fd : FuncData} (F : Fun K "needed" "needed" s_needed f fd) (B : Bl mg) (T : TJn K CJ) (TK : TKp K CC) (M_Journal_running : MetW P w K mg base 1 CJ "running" (spJRun K CJ CC) []) :
    FnW P w K mg base 2 f fd ["journal"] (spNeed K CJ CC) := by
  refine okW F sc_needed (fun vs H Q E h => ?_) (fun cdv A outer s H vs Q E cc pn hw hr h => ?_)
  · obtain ⟨_, _, _, _, _, _, rfl, _⟩ := h
    rfl
  · obtain ⟨j, L, d, wo, M, fj, rfl, ⟨lk, dc, dr, cks, rfl, hJ⟩, hcl, hrl, hkl, k⟩ := h
    obtain ⟨jnd, ⟨dx, h0⟩, h1, ⟨kc, h2, h2'⟩, ⟨kr, h3, h3'⟩, kl, kk, cv⟩ := id hJ
    have hu := hu_of hr
    have nd := sc_needed.nd
    obtain ⟨cl, n1, n2, n3, n4, n5, n6, n7, n8⟩ := T
    obtain ⟨tc, m1, m2, m3, m4, m5⟩ := TK
    refine ⟨_, (pss_cons (ps_set (i := 1) nd rfl (by first | exact Or.inl rfl | exact Or.inr rfl) (pe_lst pa_nil))
      (pss_cons (ps_forW PassesOwn.never hw (pi_lstW (K := K) (pe_ix (ix_any (K := K)) (pe_mtW0 M_Journal_running hw hr (by decide) (pv 0)) pe_int (fun _ _ => rfl))) (pg_name (i := 2) nd rfl (by first | exact Or.inl rfl | exact Or.inr rfl))
      (pss_cons (ps_setLcW (i := 3) (own := [("one", 5)]) (g := (gName 5)) hw nd rfl rfl (sw_true rfl rfl rfl (by decide +kernel)) (pi_lstW (K := K) (pe_fldA (K := K) (pv 0))) (blkOk_by (own := [("one", 5)]) (N := N_needed) (sc := defScope s_needed) (by decide +kernel)) (fun _ _ _ _ _ _ hw => (pg_name (i := 5) nd rfl (by first | exact Or.inl rfl | exact Or.inr rfl))) (fun _ _ _ _ _ _ hw => pts_one (pt_cmp (pc_din hu (pv 2) (pe_fldA (K := K) (pv 5))) rfl)) (fun _ _ _ _ _ _ hw => pe_fldA (K := K) (pv 5)))
      (pss_cons (ps_setLcW (i := 4) (own := [("one", 5)]) (g := (gName 5)) hw nd rfl rfl (sw_true rfl rfl rfl (by decide +kernel)) (pi_lstW (K := K) (pe_fldA (K := K) (pv 0))) (blkOk_by (own := [("one", 5)]) (N := N_needed) (sc := defScope s_needed) (by decide +kernel)) (fun _ _ _ _ _ _ hw => (pg_name (i := 5) nd rfl (by first | exact Or.inl rfl | exact Or.inr rfl))) (fun _ _ _ _ _ _ hw => pts_one (pt_cmpR (op_inA (K := K) (unitsW hr)) (pv 2) (pe_fldA (K := K) (pv 5)) (by rfl))) (fun _ _ _ _ _ _ hw => pe_fldA (K := K) (pv 5)))
      (pss_one (ps_if (PW.pt (pw_and (pt_tru (K := K) (pv 3)) (pw_and1 (PW.pt (pw_or (pt_not (pt_tru (K := K) (pv 4))) (pw_or1 (pt_cmpR op_ltA (pe_ix (ix_any (K := K)) (pv 4) (pe_un un_neg pe_int) (fun _ _ => rfl)) (pe_ix (ix_any (K := K)) (pv 3) (pe_un un_neg pe_int) (fun _ _ => rfl)) (nomark _)))))))) (pss_one (ps_expr (pe_bm PySem.F.plainAttrs_list PySem.F.slot_list_append PySem.F.type_list_append mt_append (pv 1) (pa_cons (pv 2) pa_nil)))) pss_nil)))))
      (pss_one (ps_ret (pv 1))))), ?_⟩
    repeat walk_at "s"
    refine r_newL (sz (Nat.le_of_ble_eq_true rfl)) (fun l H1 hl s1 hl1 => ?_)
    repeat walk_at "s"
    refine r_methAt (s1 _ _ h0) (by with_unfolding_all rfl) ?_
    repeat walk_at "s"
    refine ⟨j, L, d, wo, M, _, rfl, ⟨lk, dc, dr, cks, rfl, hJ.but (But.of_same (S := []) s1) Dj.nil⟩, hcl, hrl, fun t a b xs H2 s2 ht ha hb ha2 hxs hb2 => ?_⟩
    have hl2 := s2 _ _ hl1
    have s02 : Same H H2 := fun b o e => s2 b o (s1 b o e)
    have nbl : b ≠ l := fun z => live_of hl1 (z ▸ hb)
    clear s1 s2 ha2 hxs ha
    repeat walk_at "s"
    refine forL (.of hb2) (fun i σ H' => ∃ o2 o3 o4 o5, σ = [some (.ref j), some (.ref l), o2, o3, o4, o5] ∧ But [l] H2 H' ∧ H' l = some (.lst ((((sortI M.rev).take i).filter (isNeed M)).map V.int)))
      ⟨_, _, _, _, rfl, .refl, hl2⟩ ?_ ?_ ?_
    · rintro i σ H3 hi ⟨o2, o3, o4, o5, rfl, b3, hl3⟩
      exact .of (b3.at hb2 (by simpa using nbl))
    · rintro i y σ H3 hi ⟨o2, o3, o4, o5, rfl, b3, hl3⟩
      obtain ⟨home, hh, rfl⟩ := map_getG hi
      have b03 : But [l] H H3 := (But.of_same s02).trans b3
      have nlt : ∀ {x : Addr} {o : HO}, H x = some o → x ≠ l := fun h => ne_of_none h hl
      have h03 := b03.at h0 (by simpa using nlt h0)
      have h13 := b03.at h1 (by simpa using nlt h1)
      have kk3 : ∀ (i : Nat) (a : KA) (k : Kp), cks[i]? = some a → M.kept[i]? = some k → KpAt K CC H3 a k := fun i a k ha hk => (kk i a k ha hk).but b03 fun x hx z => by
        rw [List.mem_singleton.mp z] at hx
        exact (kk i a k ha hk).live l hx hl
      clear b03
      repeat walk_at "s"
      -- the numbers
      refine lcL (.of h13) (fun q H4 hq s4 hq4 => ?_)
      have nlq : lk ≠ q := ne_of_none h13 hq
      refine ⟨fun i H' => But [q] H4 H' ∧ H' q = some (.lst ((((M.kept.take i).filter fun k => hasD k.cs home).map (·.num)).map V.int)), ⟨.refl, hq4⟩, ?_, ?_, ?_⟩
      · rintro i2 H5 hi2 ⟨b5, hq5⟩
        exact .of (b5.at (s4 _ _ h13) (by simpa using nlq))
      · rintro i2 y H5 hi2 ⟨b5, hq5⟩
        obtain ⟨a2, ha2, rfl⟩ := map_getG hi2
        have hil := (List.getElem?_eq_some_iff.mp ha2).1
        obtain ⟨kp, hkp⟩ : ∃ kp, M.kept[i2]? = some kp := ⟨_, List.getElem?_eq_getElem (by omega)⟩
        have kp5 := (kk3 i2 a2 kp ha2 hkp).but ((But.of_same s4).trans b5) fun x hx z => by
          rw [List.mem_singleton.mp z] at hx
          exact (kk3 i2 a2 kp ha2 hkp).live q hx hq
        obtain ⟨dxc, kvs, g0, g1, g2, g3, g4, g5⟩ := kp5
        have etk : M.kept.take (i2 + 1) = M.kept.take i2 ++ [kp] := by rw [List.take_add_one, hkp]; rfl
        have ln : ((M.kept.take i2).filter fun k => hasD k.cs home).length ≤ 1000 := by
          have h1 := List.length_filter_le (fun k : Kp => hasD k.cs home) (M.kept.take i2)
          have h2 : (M.kept.take i2).length ≤ M.kept.length := by rw [List.length_take]; omega
          omega
        repeat walk_at "s"
        refine ⟨rfl, ?_⟩
        repeat walk_at "s"
        obtain ⟨o, ho, eo⟩ := dinO (k := home) g1 g2
        refine ⟨a2.dc, o, rfl, ho, ?_⟩
        rw [eo]
        repeat walk_at "s"
        cases hb : hasD kp.cs home with
        | true =>
          refine r_iteT rfl ?_
          repeat walk_at "s"
          refine ⟨_, hq5, szl (by rw [List.length_map, List.length_map]; omega), ?_⟩
          obtain ⟨H6, e6, b6, hq6⟩ := upd_ex (o' := .lst (((((M.kept.take i2).filter fun k => hasD k.cs home).map (·.num)).map V.int) ++ [.int kp.num])) hq5
          rw [e6]
          refine ⟨b5.trans b6, ?_⟩
          rw [hq6, etk, List.filter_append, List.filter_cons_of_pos (by simpa using hb), List.map_append, List.map_append]; rfl
        | false =>
          refine r_iteF rfl ?_
          refine ⟨b5, ?_⟩
          rw [hq5, etk, List.filter_append, List.filter_cons_of_neg (by simpa using hb)]
          simp
      rintro H5 ⟨b5, hq5⟩
      rw [List.length_map, kl, List.take_length] at hq5
      have s35 : Same H3 H5 := (bt_but (But.of_same s4) b5 (bc_fr hq bc_nil) : But [] H3 H5).same
      have fq : H2 q = none := b3.free hq
      clear b5 s4 hq4
      have h15 := s35 _ _ h13
      have hl5 := s35 _ _ hl3
      repeat walk_at "s"
      -- the revokes
      refine lcL (.of h15) (fun q2 H6 hq2 s6 hq26 => ?_)
      have nlq2 : lk ≠ q2 := ne_of_none h15 hq2
      refine ⟨fun i H' => But [q2] H6 H' ∧ H' q2 = some (.lst ((((M.kept.take i).filter fun k => decide (home ∈ k.rs)).map (·.num)).map V.int)), ⟨.refl, hq26⟩, ?_, ?_, ?_⟩
      · rintro i2 H7 hi2 ⟨b7, hq7⟩
        exact .of (b7.at (s6 _ _ h15) (by simpa using nlq2))
      · rintro i2 y H7 hi2 ⟨b7, hq7⟩
        obtain ⟨a2, ha2, rfl⟩ := map_getG hi2
        have hil := (List.getElem?_eq_some_iff.mp ha2).1
        obtain ⟨kp, hkp⟩ : ∃ kp, M.kept[i2]? = some kp := ⟨_, List.getElem?_eq_getElem (by omega)⟩
        have kp7 := ((kk3 i2 a2 kp ha2 hkp).but (But.of_same (S := []) s35) Dj.nil).but ((But.of_same s6).trans b7) fun x hx z => by
          rw [List.mem_singleton.mp z] at hx
          exact ((kk3 i2 a2 kp ha2 hkp).but (But.of_same (S := []) s35) Dj.nil).live q2 hx hq2
        obtain ⟨dxc, kvs, g0, g1, g2, g3, g4, g5⟩ := kp7
        have etk : M.kept.take (i2 + 1) = M.kept.take i2 ++ [kp] := by rw [List.take_add_one, hkp]; rfl
        have ln : ((M.kept.take i2).filter fun k => decide (home ∈ k.rs)).length ≤ 1000 := by
          have h1 := List.length_filter_le (fun k : Kp => decide (home ∈ k.rs)) (M.kept.take i2)
          have h2 : (M.kept.take i2).length ≤ M.kept.length := by rw [List.length_take]; omega
          omega
        repeat walk_at "s"
        refine ⟨rfl, ?_⟩
        repeat walk_at "s"
        refine r_inL (.of g3) ?_
        repeat walk_at "s"
        refine r_ite (fun hb => ?_) (fun hb => ?_)
        · repeat walk_at "s"
          refine ⟨_, hq7, szl (by rw [List.length_map, List.length_map]; omega), ?_⟩
          obtain ⟨H8, e8, b8, hq8⟩ := upd_ex (o' := .lst (((((M.kept.take i2).filter fun k => decide (home ∈ k.rs)).map (·.num)).map V.int) ++ [.int kp.num])) hq7
          rw [e8]
          refine ⟨b7.trans b8, ?_⟩
          rw [hq8, etk, List.filter_append, List.filter_cons_of_pos (by simpa using hb), List.map_append, List.map_append]; rfl
        · refine ⟨b7, ?_⟩
          rw [hq7, etk, List.filter_append, List.filter_cons_of_neg (by simpa using hb)]
          simp
      rintro H7 ⟨b7, hq7⟩
      rw [List.length_map, kl, List.take_length] at hq7
      have s57 : Same H5 H7 := (bt_but (But.of_same s6) b7 (bc_fr hq2 bc_nil) : But [] H5 H7).same
      clear b7 s6 hq26
      have hq57 := s57 _ _ hq5
      have hl7 := s57 _ _ hl5
      have b37 : But [l] H3 H7 := (But.of_same s35).trans (But.of_same s57)
      have b27 : But [l] H2 H7 := b3.trans b37
      clear s35 s57 b37 b3
      have hh2 : (sortI M.rev).take (i + 1) = (sortI M.rev).take i ++ [home] := by rw [List.take_add_one, hh]; rfl
      have ln : ((sortI M.rev).take i).length ≤ 1000 := by
        have := sortI_len M.rev
        rw [List.length_take]; omega
      have lnf := List.length_filter_le (isNeed M) ((sortI M.rev).take i)
      have fin1 : isNeed M home = true → ∀ H8, But [l] H7 H8 → H8 l = some (.lst (((((sortI M.rev).take i).filter (isNeed M)).map V.int) ++ [.int home])) → H8 l = some (.lst ((((sortI M.rev).take (i + 1)).filter (isNeed M)).map V.int)) := fun hn H8 _ h8 => by
        rw [h8, hh2, List.filter_append, List.filter_cons_of_pos hn, List.map_append]; rfl
      have fin0 : isNeed M home = false → H7 l = some (.lst ((((sortI M.rev).take (i + 1)).filter (isNeed M)).map V.int)) := fun hn => by
        rw [hl7, hh2, List.filter_append, List.filter_cons_of_neg (by rw [hn]; exact Bool.false_ne_true)]
        simp
      replace hq57 : H7 q = some (.lst ((numsOf M home).map V.int)) := hq57
      replace hq7 : H7 q2 = some (.lst ((covOf M home).map V.int)) := hq7
      have en1 := need_nil M home
      have en2 := @need_one M home
      have en3 := @need_two M home
      have szf : (((((sortI M.rev).take i).filter (isNeed M)).map V.int)).length ≤ 1000 := by rw [List.length_map]; omega
      generalize numsOf M home = ns at hq57 en1 en2 en3
      generalize covOf M home = cov at hq7 en2 en3
      clear hl5 hq5
      repeat walk_at "s"
      refine ⟨_, .inl ⟨_, .of hq57, rfl⟩, ?_⟩
      rcases List.eq_nil_or_concat ns with e | ⟨xs', x, e⟩
      · rw [e]
        refine r_iteF rfl ?_
        refine r_iteF rfl ?_
        repeat walk_at "s"
        exact ⟨_, _, _, _, rfl, b27, fin0 (en1 e)⟩
      · rw [List.concat_eq_append] at e
        rw [e, List.map_append] at hq57
        rw [e, List.map_append]
        refine r_iteT (by simp) ?_
        repeat walk_at "s"
        refine ⟨_, .inl ⟨_, .of hq7, rfl⟩, ?_⟩
        rcases List.eq_nil_or_concat cov with e2 | ⟨ys', y, e2⟩
        · rw [e2]
          refine r_iteT rfl ?_
          refine r_iteT rfl ?_
          repeat walk_at "s"
          refine r_app hl7 (szl (by omega)) (fun H8 b8 hl8 => ?_)
          exact ⟨_, _, _, _, rfl, b27.trans b8, fin1 (en2 e e2) H8 b8 hl8⟩
        · rw [List.concat_eq_append] at e2
          rw [e2, List.map_append] at hq7
          rw [e2, List.map_append]
          refine r_iteF (by simp) ?_
          repeat walk_at "s"
          refine r_U ?_
          repeat walk_at "s"
          refine r_ixL (.of hq7) (atI_last _ _) ?_
          repeat walk_at "s"
          refine r_U ?_
          repeat walk_at "s"
          refine r_ixL (.of hq57) (atI_last _ _) ?_
          repeat walk_at "s"
          refine r_ite (fun hlt => ?_) (fun hlt => ?_)
          · repeat walk_at "s"
            refine r_app hl7 (szl (by omega)) (fun H8 b8 hl8 => ?_)
            exact ⟨_, _, _, _, rfl, b27.trans b8, fin1 (by rw [en3 e e2, decide_eq_true hlt]) H8 b8 hl8⟩
          · exact ⟨_, _, _, _, rfl, b27, fin0 (by rw [en3 e e2, decide_eq_false hlt])⟩
    · rintro σ H3 ⟨o2, o3, o4, o5, rfl, b3, hl3⟩
      rw [List.length_map, List.take_length] at hl3
      have s03 : Same H H3 := (bt_but (But.of_same s02) b3 (bc_fr hl bc_nil) : But [] H H3).same
      repeat walk_at "s"
      exact k l H3 s03 hl hl3
end
end L27

open PySem L2 PyProof.Rows J

namespace L27
/-! ### keep -/
def forgK (hs : List Int) (k : Kp) : Kp := { k with left := k.left.filter fun x => decide (x ∉ hs) }
def keepM (wo : Option Str) (s : Nat) (kp : Kp) (freed : List Int) (M : JM) : JM := ⟨M.next + 1, (M.head + kp.size) % s, (if wo = some ("forget" : Str) then M.kept else M.kept.map (forgK (kp.left ++ freed))) ++ [kp], [], []⟩
theorem nd_swap {p q : List Addr} {x y : Addr} (h : (p ++ x :: q).Nodup) (h1 : y ∉ p) (h2 : y ∉ q) : (p ++ y :: q).Nodup := by
  rw [List.nodup_append] at h ⊢
  obtain ⟨a, b, c⟩ := h
  rw [List.nodup_cons] at b ⊢
  refine ⟨a, ⟨h2, b.2⟩, fun z hz w hw e => ?_⟩
  rcases List.mem_cons.mp hw with hw | hw
  · exact h1 (by rw [← hw, ← e]; exact hz)
  · exact c z hz w (List.mem_cons_of_mem _ hw) e
section
variable {P : Program} {w : World} {K : PySem.W.Frag} {mg : Str → Option Value} {base : Heap} {CDisk CLayout CJ CC : Addr} {H H' : Hp} {T : List Addr} {j L d lk dc dr : Addr} {wo : Option Str} {M : JM} {cks : List KA} {fj : List Addr}
/-- a frame that the tactics do not see -/
structure BtW (S : List Addr) (H H' : Hp) : Prop where
  b : But S H H'
/-- the kept ones, the first i of them rid of homes -/
structure Forg (K : PySem.W.Frag) (CC : Addr) (H H' : Hp) (pre : List Addr) (hs : List Int) (ks : List Kp) (cks cks' : List KA) (i : Nat) : Prop where
  bt : But (cks.map (·.c)) H H'
  len : cks'.length = cks.length
  kl : cks.length = ks.length
  cc : cks'.map (·.c) = cks.map (·.c)
  nd : (pre ++ cks'.flatMap KA.all).Nodup
  fr : ∀ x ∈ cks'.flatMap KA.all, x ∈ cks.flatMap KA.all ∨ H x = none
  tl : ∀ n, i ≤ n → cks'[n]? = cks[n]?
  kk : ∀ (n : Nat) (a : KA) (k : Kp), cks'[n]? = some a → ks[n]? = some k → KpAt K CC H' a (if n < i then forgK hs k else k)
theorem Forg.step {H'' : Hp} {pre : List Addr} {hs : List Int} {ks : List Kp} {cks' : List KA} {i : Nat} {a : KA} {k : Kp} {ll : Addr} (h : Forg K CC H H' pre hs ks cks cks' i) (ha : cks[i]? = some a) (hk : ks[i]? = some k) (b : But [a.c] H' H'') (hl : H' ll = none)
    (hp : Live pre H) (hkp : KpAt K CC H'' { a with ll := ll } (forgK hs k)) : Forg K CC H H'' pre hs ks cks (cks'.set i { a with ll := ll }) (i + 1) := by
  have hil := (List.getElem?_eq_some_iff.mp ha).1
  have ha' : cks'[i]? = some a := by rw [h.tl i (Nat.le_refl _)]; exact ha
  have hil' : i < cks'.length := by rw [h.len]; exact hil
  have hfl : H ll = none := h.bt.free hl
  have hsp : cks' = cks'.take i ++ a :: cks'.drop (i + 1) := by
    have e := (List.getElem?_eq_some_iff.mp ha').2
    have e2 := List.drop_eq_getElem_cons hil'
    rw [e] at e2
    rw [← e2, List.take_append_drop]
  have hset : cks'.set i { a with ll := ll } = cks'.take i ++ { a with ll := ll } :: cks'.drop (i + 1) := List.set_eq_take_append_cons_drop .. |>.trans (by rw [if_pos hil'])
  have live1 : ∀ (n : Nat) (a' : KA), cks'[n]? = some a' → ∀ x ∈ a'.all, H' x ≠ none := fun n a' hn x hx => by
    have hn2 := (List.getElem?_eq_some_iff.mp hn).1
    exact (h.kk n a' _ hn (List.getElem?_eq_getElem (by rw [← h.kl, ← h.len]; exact hn2))).live x hx
  have live' : ∀ x ∈ cks'.flatMap KA.all, H' x ≠ none := fun x hx => by
    obtain ⟨a', ha2, hx2⟩ := List.mem_flatMap.mp hx
    obtain ⟨n, hn⟩ := List.mem_iff_getElem?.mp ha2
    exact live1 n a' hn x hx2
  have livep : ∀ x ∈ pre, H' x ≠ none := fun x hx => h.bt.live x (hp x hx)
  have sub1 : ∀ x ∈ (cks'.take i).flatMap KA.all, x ∈ cks'.flatMap KA.all := fun x hx => by
    obtain ⟨a', ha2, hx2⟩ := List.mem_flatMap.mp hx
    exact List.mem_flatMap.mpr ⟨a', List.mem_of_mem_take ha2, hx2⟩
  have sub2 : ∀ x ∈ (cks'.drop (i + 1)).flatMap KA.all, x ∈ cks'.flatMap KA.all := fun x hx => by
    obtain ⟨a', ha2, hx2⟩ := List.mem_flatMap.mp hx
    exact List.mem_flatMap.mpr ⟨a', List.mem_of_mem_drop ha2, hx2⟩
  have eF : ∀ a' : KA, pre ++ (cks'.take i ++ a' :: cks'.drop (i + 1)).flatMap KA.all = (pre ++ (cks'.take i).flatMap KA.all ++ [a'.c, a'.dc, a'.lr]) ++ a'.ll :: (cks'.drop (i + 1)).flatMap KA.all := fun a' => by
    rw [List.flatMap_append, List.flatMap_cons]
    simp [KA.all]
  have n1 := h.nd
  rw [hsp, eF] at n1
  have nd2 : (pre ++ (cks'.set i { a with ll := ll }).flatMap KA.all).Nodup := by
    rw [hset, eF]
    refine nd_swap n1 (fun z => ?_) fun z => live' ll (sub2 ll z) hl
    rcases List.mem_append.mp z with z | z
    · rcases List.mem_append.mp z with z | z
      · exact livep ll z hl
      · exact live' ll (sub1 ll z) hl
    · exact live1 i a ha' ll (by simp only [KA.all, List.mem_cons, List.not_mem_nil, or_false] at z ⊢; rcases z with z | z | z <;> simp [z]) hl
  -- the other ones do not meet a.c
  have dj : ∀ (n : Nat) (a' : KA), n ≠ i → cks'[n]? = some a' → a.c ∉ a'.all := fun n a' hne hn hz => by
    have n2 := n1
    have mem : a.c ∈ (cks'.take i).flatMap KA.all ∨ a.c ∈ (cks'.drop (i + 1)).flatMap KA.all := by
      rcases Nat.lt_or_gt_of_ne hne with hlt | hgt
      · left
        refine List.mem_flatMap.mpr ⟨a', List.mem_of_getElem? (i := n) ?_, hz⟩
        rw [List.getElem?_take_of_lt hlt]; exact hn
      · right
        refine List.mem_flatMap.mpr ⟨a', List.mem_of_getElem? (i := n - (i + 1)) ?_, hz⟩
        rw [List.getElem?_drop, show i + 1 + (n - (i + 1)) = n by omega]; exact hn
    rw [List.nodup_append] at n2
    obtain ⟨m1, m2, m3⟩ := n2
    rcases mem with mem | mem
    · rw [List.nodup_append] at m1
      exact m1.2.2 _ (List.mem_append_right _ mem) _ List.mem_cons_self rfl
    · exact m3 a.c (List.mem_append_right _ List.mem_cons_self) a.c (List.mem_cons_of_mem _ mem) rfl
  refine ⟨h.bt.trans (b.sub ?_), ?_, h.kl, ?_, nd2, ?_, ?_, ?_⟩
  · intro z hz
    rw [List.mem_singleton.mp hz]
    exact List.mem_map.mpr ⟨a, List.mem_of_getElem? ha, rfl⟩
  · rw [List.length_set]; exact h.len
  · rw [List.map_set]
    have e : (cks'.map (·.c))[i]? = some a.c := by rw [List.getElem?_map, ha']; rfl
    obtain ⟨h1, h2⟩ := List.getElem?_eq_some_iff.mp e
    have : (cks'.map (·.c)).set i a.c = cks'.map (·.c) := by rw [← h2]; exact List.set_getElem_self ..
    exact this.trans h.cc
  · intro x hx
    rw [hset, List.flatMap_append, List.flatMap_cons] at hx
    rcases List.mem_append.mp hx with hx | hx
    · exact h.fr x (sub1 x hx)
    · rcases List.mem_append.mp hx with hx | hx
      · have : x = ll ∨ x ∈ a.all := by
          simp only [KA.all, List.mem_cons, List.not_mem_nil, or_false] at hx ⊢
          rcases hx with e | e | e | e <;> simp [e]
        rcases this with rfl | hx2
        · exact .inr hfl
        · exact h.fr x (List.mem_flatMap.mpr ⟨a, List.mem_of_getElem? ha', hx2⟩)
      · exact h.fr x (sub2 x hx)
  · intro n hn
    rw [List.getElem?_set_ne (by omega)]
    exact h.tl n (by omega)
  · intro n a' k' hn hk'
    by_cases e : n = i
    · subst e
      rw [List.getElem?_set_self hil'] at hn
      rw [hk] at hk'
      rw [← Option.some.inj hn, ← Option.some.inj hk', if_pos (Nat.lt_succ_self _)]
      exact hkp
    · rw [List.getElem?_set_ne (fun z => e z.symm)] at hn
      have e2 : (if n < i + 1 then forgK hs k' else k') = if n < i then forgK hs k' else k' := by
        by_cases h1 : n < i
        · rw [if_pos h1, if_pos (by omega)]
        · rw [if_neg h1, if_neg (by omega)]
      rw [e2]
      exact (h.kk n a' k' hn hk').but b fun x hx z => dj n a' e hn (by rw [← List.mem_singleton.mp z]; exact hx)
def spKeep (CLayout : Addr) (K : PySem.W.Frag) (CJ CC : Addr) : Sp := fun vs H Q _ => ∃ (j L d fr : Addr) (wo : Option Str) (M : JM) (fj : List Addr) (s h : Nat) (a : KA) (kp : Kp) (freed : List Int), vs = [.ref j, .ref a.c, .ref fr] ∧ JAt K CJ CC H j L d wo M fj ∧ LayAt CLayout H L s h ∧ L ∉ fj ∧
  KpAt K CC H a kp ∧ a.all.Nodup ∧ Dj a.all fj ∧ H fr = some (.lst (freed.map V.int)) ∧ kp.left.length ≤ 400 ∧ freed.length ≤ 400 ∧ M.kept.length ≤ 1000 ∧ (∀ k ∈ M.kept, k.left.length ≤ 1000) ∧
  ∀ fj' H', But fj H H' → (∀ x ∈ fj', x ∈ fj ∨ x ∈ a.all ∨ H x = none) → JAt K CJ CC H' j L d wo (keepM wo s kp freed M) fj' → Q (.int kp.num) H'
abbrev s_Journal_keep : Stmt := inClass (top 34) 10
abbrev N_Journal_keep : List Str := ["self", "one", "freed", "older"]
theorem sc_Journal_keep : FnScope N_Journal_keep ["self", "one", "freed"] (defScope s_Journal_keep) :=
  ⟨rfl, rfl, rfl, by decide +kernel, rfl, by decide +kernel, by decide +kernel⟩

theorem ok_Journal_keep {f : Addr} {fd : FuncData} (F : Fun K "keep" "Journal.keep" s_Journal_keep f fd) (T : TJn K CJ) (TK : TKp K CC) (M_Layout_slots : MetW P w K mg base 1 CLayout "slots" (spLayI CLayout fun s _ => s) []) (M_Committed_forget : MetW P w K mg base 1 CC "forget" (spForget K CC) []) :
    FnW P w K mg base 2 f fd ["self", "one", "freed"] (spKeep CLayout K CJ CC) := by
  refine okW F sc_Journal_keep (fun vs H Q E h => ?_) (fun cdv A outer s H vs Q E cc pn hw hr h => ?_)
  · obtain ⟨_, _, _, _, _, _, _, _, _, _, _, _, rfl, _⟩ := h
    rfl
  · obtain ⟨j, L, d, fr, wo, M, fj, sl, ho, a, kp, freed, rfl, ⟨lk, dc, dr, cks, rfl, hJ⟩, hL, hLj, hkp, hand, hdj, hfr, hll, hfl, hkl, hkll, k⟩ := h
    obtain ⟨jnd, ⟨dx, h0⟩, h1, ⟨kc, h2, h2'⟩, ⟨kr, h3, h3'⟩, kl, kk, cv⟩ := id hJ
    have hu := hu_of hr
    have nd := sc_Journal_keep.nd
    obtain ⟨cl, n1, n2, n3, n4, n5, n6, n7, n8⟩ := T
    obtain ⟨tc, m1, m2, m3, m4, m5⟩ := TK
    have hs8 := hL.s1
    have cIn : ∀ (n : Nat) (a' : KA), cks[n]? = some a' → ∃ dx' fs, H a'.c = some (.ins CC dx' fs) := fun n a' hn => by
      have hn2 := (List.getElem?_eq_some_iff.mp hn).1
      obtain ⟨dxc, kvs, g0, _⟩ := kk n a' _ hn (List.getElem?_eq_getElem (by omega))
      exact ⟨_, _, g0⟩
    have cNe : ∀ {x : Addr} {o : HO}, H x = some o → (∀ dx' fs, o ≠ .ins CC dx' fs) → x ∉ cks.map (·.c) := fun {x o} hx hne z => by
      obtain ⟨a', ha, e⟩ := List.mem_map.mp z
      obtain ⟨n, hn⟩ := List.mem_iff_getElem?.mp ha
      obtain ⟨dx', fs, g⟩ := cIn n a' hn
      have e2 : a'.c = x := e
      rw [e2, hx] at g
      exact hne dx' fs (Option.some.inj g)
    obtain ⟨dxa, kva, ga0, ga1, ga2, ga3, ga4, ga5⟩ := id hkp
    have cSub : ∀ z ∈ cks.map (·.c), z ∈ cks.flatMap KA.all := fun z hz => by
      obtain ⟨a', ha, e⟩ := List.mem_map.mp hz
      exact List.mem_flatMap.mpr ⟨a', ha, by rw [← e]; simp [KA.all]⟩
    have jn := jnd
    simp only [List.nodup_cons, List.mem_cons, not_or] at jn
    obtain ⟨⟨j1, j2, j3, j4⟩, ⟨j5, j6, j7⟩, ⟨j8, j9⟩, j10, j11⟩ := jn
    have aNe : ∀ x ∈ a.all, x ∉ cks.map (·.c) := fun x hx z => hdj x hx (by simp only [jAll, List.mem_cons]; exact .inr (.inr (.inr (.inr (cSub x z)))))
    obtain ⟨kept', hkept⟩ : ∃ q, (if wo = some ("forget" : Str) then M.kept else M.kept.map (forgK (kp.left ++ freed))) = q := ⟨_, rfl⟩
    have kl' : kept'.length = M.kept.length := by
      rw [← hkept]
      split
      · rfl
      · rw [List.length_map]
    refine ⟨_, (pss_cons (ps_if (pt_cmpR (op_neA (K := K) hr.units) (pe_fldA (K := K) (pv 0)) pe_str (nomark _)) (pss_one (ps_forW PassesOwn.never hw (pi_lstW (K := K) (pe_fldA (K := K) (pv 0))) (pg_name (i := 3) nd rfl (by first | exact Or.inl rfl | exact Or.inr rfl))
      (pss_one (ps_expr (pe_mtW M_Committed_forget hw hr (by decide) (pv 3) (pa_cons (pe_op (op_addA (K := K)) (pe_fldA (K := K) (pv 1)) (pv 2)) pa_nil)))))) pss_nil)
      (pss_cons (ps_expr (pe_bm PySem.F.plainAttrs_list PySem.F.slot_list_append PySem.F.type_list_append mt_append (pe_fldA (K := K) (pv 0)) (pa_cons (pv 1) pa_nil)))
      (pss_cons (ps_fldA (K := K) (pv 0) (pe_op op_mod (pe_op (op_addA (K := K)) (pe_fldA (K := K) (pv 0)) (pe_fldA (K := K) (pv 1))) (pe_mtW0 M_Layout_slots hw hr (by decide) (pe_fldA (K := K) (pv 0)))))
      (pss_cons (ps_fldaugA (K := K) (pv 0) pe_int (in_ofR ip_addA))
      (pss_cons (ps_expr (pe_dclear (pe_fldA (K := K) (pv 0))))
      (pss_cons (ps_expr (pe_dclear (pe_fldA (K := K) (pv 0))))
      (pss_one (ps_ret (pe_fldA (K := K) (pv 1)))))))))), ?_⟩
    with_reducible refine r_seqCut (fun σ' H' => ∃ (o3 : Option V) (cks' : List KA), σ' = [some (.ref j), some (.ref a.c), some (.ref fr), o3] ∧ But (cks.map (·.c)) H H' ∧ cks'.length = cks.length ∧ cks'.map (·.c) = cks.map (·.c) ∧ ([j, lk, dc, dr] ++ cks'.flatMap KA.all).Nodup ∧
        (∀ x ∈ cks'.flatMap KA.all, x ∈ cks.flatMap KA.all ∨ H x = none) ∧ ∀ (n : Nat) (a' : KA) (k : Kp), cks'[n]? = some a' → kept'[n]? = some k → KpAt K CC H' a' k) ?_ ?_
    rotate_left
    · intro cut
      repeat walk_at "s"
      refine r_neRule (by decide +kernel) ?_
      repeat walk_at "s"
      refine r_iteN (fun hw => ?_) (fun hw => ?_)
      · rw [if_neg hw] at hkept
        repeat walk_at "s"
        refine forL (.of h1) (fun i σ H' => ∃ (o3 : Option V) (cks' : List KA), σ = [some (.ref j), some (.ref a.c), some (.ref fr), o3] ∧ Forg K CC H H' [j, lk, dc, dr] (kp.left ++ freed) M.kept cks cks' i)
          ⟨_, cks, rfl, .refl, rfl, kl, rfl, jnd, fun x hx => .inl hx, fun _ _ => rfl, fun n a' k' hn hk' => by rw [if_neg (Nat.not_lt_zero _)]; exact kk n a' k' hn hk'⟩ ?_ ?_ ?_
        · rintro i σ H1 hi ⟨o3, cks', rfl, fg⟩
          exact .of (fg.bt.at h1 (cNe h1 (fun _ _ z => by cases z)))
        · rintro i x σ H1 hi ⟨o3, cks', rfl, fg⟩
          obtain ⟨a', ha', rfl⟩ := map_getG hi
          have hil := (List.getElem?_eq_some_iff.mp ha').1
          obtain ⟨k', hk'⟩ : ∃ k', M.kept[i]? = some k' := ⟨_, List.getElem?_eq_getElem (by omega)⟩
          have kp1 := fg.kk i a' k' (by rw [fg.tl i (Nat.le_refl _)]; exact ha') hk'
          rw [if_neg (Nat.lt_irrefl _)] at kp1
          have gf1 := fg.bt.at hfr (cNe hfr (fun _ _ z => by cases z))
          have ga01 := fg.bt.at ga0 (aNe _ (by simp [KA.all]))
          have ga41 := fg.bt.at ga4 (aNe _ (by simp [KA.all]))
          obtain ⟨dxb, kvb, gb0, _⟩ := id kp1
          have kl2 : k'.left.length ≤ 1000 := hkll k' (List.mem_of_getElem? hk')
          repeat walk_at "s"
          refine r_methAt gb0 (by with_unfolding_all rfl) ?_
          repeat walk_at "s"
          refine r_addL ga41 gf1 (sz (by simp; omega)) (fun hl H2 hhl s2 hhl2 => ?_)
          rw [← List.map_append] at hhl2
          have nda : a'.all.Nodup := by
            have h5 := (List.nodup_append.mp fg.nd).2.1
            have hm : a' ∈ cks' := List.mem_of_getElem? (i := i) (by rw [fg.tl i (Nat.le_refl _)]; exact ha')
            obtain ⟨p1, p2, e⟩ := List.append_of_mem hm
            rw [e, List.flatMap_append, List.flatMap_cons] at h5
            exact (List.nodup_append.mp (List.nodup_append.mp h5).2.1).1
          repeat walk_at "s"
          refine ⟨a', k', hl, kp.left ++ freed, rfl, kp1.but (But.of_same (S := []) s2) Dj.nil, nda, hhl2, kl2, by rw [List.length_append]; omega, fun ll H3 b3 hll3 hkp3 => ?_⟩
          exact ⟨_, _, rfl, fg.step ha' hk' ((But.of_same s2).trans b3) ((But.of_same (S := []) s2).free hll3) (.cons h0 (.cons h1 (.cons h2 (.cons h3 .nil)))) hkp3⟩
        · rintro σ H1 ⟨o3, cks', rfl, fg⟩
          refine cut _ _ ⟨_, cks', rfl, fg.bt, fg.len, fg.cc, fg.nd, fg.fr, fun n a' k' hn hk' => ?_⟩
          rw [← hkept] at hk'
          obtain ⟨k0, hk0, rfl⟩ := map_getG hk'
          have := fg.kk n a' k0 hn hk0
          rw [List.length_map, kl, if_pos (List.getElem?_eq_some_iff.mp hk0).1] at this
          exact this
      · rw [if_pos hw] at hkept
        exact cut _ _ ⟨_, cks, rfl, .refl, rfl, rfl, jnd, fun x hx => .inl hx, by rw [← hkept]; exact kk⟩
    rintro σ' H1 ⟨o3, cks', rfl, b1, len1, cc1, nd1, fr1, kk1⟩
    have nj : ∀ {x : Addr}, x ∉ cks.flatMap KA.all → x ∉ cks.map (·.c) := fun h z => h (cSub _ z)
    have h01 := b1.at h0 (nj j4)
    have h11 := b1.at h1 (nj j7)
    have h21 := b1.at h2 (nj j9)
    have h31 := b1.at h3 (nj j10)
    have hL1 := hL.but b1 (fun z => hLj (by simp only [jAll, List.mem_cons]; exact .inr (.inr (.inr (.inr (cSub L z))))))
    have hkp1 := hkp.but b1 aNe
    have lkl : (cks.map fun a => V.ref a.c).length ≤ 1000 := by rw [List.length_map]; omega
    repeat walk_at "s"
    refine r_app h11 (szl (by omega)) (fun H2 b2 hlk2 => ?_)
    have h02 := b2.at h01 (by simpa using j1)
    have h22 := b2.at h21 (by simpa using Ne.symm j5)
    have h32 := b2.at h31 (by simpa using Ne.symm j6)
    have hL2 := hL1.but b2 (fun z => hLj (by rw [List.mem_singleton.mp z]; simp [jAll]))
    have dka : ∀ x ∈ a.all, x ≠ j ∧ x ≠ lk ∧ x ≠ dc ∧ x ≠ dr := fun x hx => by
      have := hdj x hx
      simp only [jAll, List.mem_cons, not_or] at this
      exact ⟨this.1, this.2.1, this.2.2.1, this.2.2.2.1⟩
    have hkp2 := hkp1.but b2 (fun x hx z => (dka x hx).2.1 (List.mem_singleton.mp z))
    obtain ⟨dxb, kvb, gb0, _⟩ := id hkp2
    obtain ⟨dl, hLx⟩ := hL2.ex
    have B2 : BtW [j, lk, dc, dr] H1 H2 := ⟨b2.sub (by simp)⟩
    clear b2
    repeat walk_at "s"
    refine r_methAt hLx (by with_unfolding_all rfl) ?_
    repeat walk_at "s"
    refine ⟨L, sl, ho, rfl, hL2, ?_⟩
    dsimp only
    repeat walk_at "s"
    have eh : ((M.head : Int) + (kp.size : Int)) % (sl : Int) = (((M.head + kp.size) % sl : Nat) : Int) := by rw [Int.natCast_emod, Int.natCast_add]
    rw [eh]
    refine r_setAt h02 cl n5 (Nat.le_of_ble_eq_true rfl) (fun H3 b3 h03 => ?_)
    have hlk3 := b3.at hlk2 (by simpa using Ne.symm j1)
    have h23 := b3.at h22 (by simpa using Ne.symm j2)
    have h33 := b3.at h32 (by simpa using Ne.symm j3)
    have hkp3 := hkp2.but b3 (fun x hx z => (dka x hx).1 (List.mem_singleton.mp z))
    have B3 : BtW [j, lk, dc, dr] H1 H3 := ⟨B2.b.trans (b3.sub (by simp))⟩
    clear b3
    repeat walk_at "s"
    refine r_augAt h03 cl n4 (by with_unfolding_all rfl) ?_
    repeat walk_at "s"
    refine r_putAt h03 (Nat.le_of_ble_eq_true rfl) (fun H4 b4 h04 => ?_)
    have hlk4 := b4.at hlk3 (by simpa using Ne.symm j1)
    have h24 := b4.at h23 (by simpa using Ne.symm j2)
    have h34 := b4.at h33 (by simpa using Ne.symm j3)
    have hkp4 := hkp3.but b4 (fun x hx z => (dka x hx).1 (List.mem_singleton.mp z))
    have B4 : BtW [j, lk, dc, dr] H1 H4 := ⟨B3.b.trans (b4.sub (by simp))⟩
    clear b4
    repeat walk_at "s"
    refine ⟨.inr (.inr (.inl ⟨rfl, .inl ⟨_, h24⟩⟩)), r_clearD h24 (fun H5 b5 hdc5 => ?_)⟩
    have h05 := b5.at h04 (by simpa using j2)
    have hlk5 := b5.at hlk4 (by simpa using j5)
    have h35 := b5.at h34 (by simpa using Ne.symm j8)
    have hkp5 := hkp4.but b5 (fun x hx z => (dka x hx).2.2.1 (List.mem_singleton.mp z))
    have B5 : BtW [j, lk, dc, dr] H1 H5 := ⟨B4.b.trans (b5.sub (by simp))⟩
    clear b5
    repeat walk_at "s"
    refine ⟨.inr (.inr (.inl ⟨rfl, .inl ⟨_, h35⟩⟩)), r_clearD h35 (fun H6 b6 hdr6 => ?_)⟩
    have h06 := b6.at h05 (by simpa using j3)
    have hlk6 := b6.at hlk5 (by simpa using j6)
    have hdc6 := b6.at hdc5 (by simpa using j8)
    have hkp6 := hkp5.but b6 (fun x hx z => (dka x hx).2.2.2 (List.mem_singleton.mp z))
    have B6 : BtW [j, lk, dc, dr] H1 H6 := ⟨B5.b.trans (b6.sub (by simp))⟩
    obtain ⟨dxc6, kvc6, gc6, _⟩ := id hkp6
    clear b6
    repeat walk_at "s"
    have BH : But (jAll j lk dc dr cks) H H6 := (b1.sub (fun z hz => by simp only [jAll, List.mem_cons]; exact .inr (.inr (.inr (.inr (cSub z hz)))))).trans (B6.b.sub (by simp [jAll]))
    have efm : (cks' ++ [a]).flatMap KA.all = cks'.flatMap KA.all ++ a.all := by rw [List.flatMap_append]; simp
    refine k (jAll j lk dc dr (cks' ++ [a])) H6 BH (fun x hx => ?_) ⟨lk, dc, dr, cks' ++ [a], rfl, ?_, ⟨dx, h06⟩, ?_, ⟨[], hdc6, .nil⟩, ⟨[], hdr6, rfl⟩, ?_, ?_, by simp [keepM]⟩
    · simp only [jAll, List.mem_cons, efm, List.mem_append] at hx ⊢
      rcases hx with e | e | e | e | e | e
      · exact .inl (.inl e)
      · exact .inl (.inr (.inl e))
      · exact .inl (.inr (.inr (.inl e)))
      · exact .inl (.inr (.inr (.inr (.inl e))))
      · rcases fr1 x e with h | h
        · exact .inl (.inr (.inr (.inr (.inr h))))
        · exact .inr (.inr h)
      · exact .inr (.inl e)
    · have e : jAll j lk dc dr (cks' ++ [a]) = ([j, lk, dc, dr] ++ cks'.flatMap KA.all) ++ a.all := by
        unfold jAll
        rw [efm]; simp
      show (jAll j lk dc dr (cks' ++ [a])).Nodup
      rw [e]
      refine List.nodup_append.mpr ⟨nd1, hand, fun x hx y hy exy => ?_⟩
      subst exy
      rcases List.mem_append.mp hx with hx | hx
      · have := dka x hy
        simp only [List.mem_cons, List.not_mem_nil, or_false] at hx
        rcases hx with e | e | e | e
        · exact this.1 e
        · exact this.2.1 e
        · exact this.2.2.1 e
        · exact this.2.2.2 e
      · rcases fr1 x hx with h | h
        · exact hdj x hy (by simp only [jAll, List.mem_cons]; exact .inr (.inr (.inr (.inr h))))
        · exact hkp.live x hy h
    · rw [hlk6, List.map_append]
      have e : (cks.map fun a => V.ref a.c) = cks'.map fun a => V.ref a.c := by
        have := congrArg (List.map V.ref) cc1
        rw [List.map_map, List.map_map] at this
        exact this.symm
      rw [e]; rfl
    · show (cks' ++ [a]).length = ((if wo = some ("forget" : Str) then M.kept else M.kept.map (forgK (kp.left ++ freed))) ++ [kp]).length
      rw [hkept, List.length_append, List.length_append, len1, kl, kl']; rfl
    · intro n a' k' hn hk'
      replace hk' : ((if wo = some ("forget" : Str) then M.kept else M.kept.map (forgK (kp.left ++ freed))) ++ [kp])[n]? = some k' := hk'
      rw [hkept] at hk'
      by_cases hlt : n < cks'.length
      · rw [List.getElem?_append_left hlt] at hn
        rw [List.getElem?_append_left (by rw [kl', ← kl, ← len1]; exact hlt)] at hk'
        refine (kk1 n a' k' hn hk').but B6.b fun x hx z => ?_
        have hm : x ∈ cks'.flatMap KA.all := List.mem_flatMap.mpr ⟨a', List.mem_of_getElem? hn, hx⟩
        exact (List.nodup_append.mp nd1).2.2 x z x hm rfl
      · have hn2 := (List.getElem?_eq_some_iff.mp hn).1
        rw [List.length_append, List.length_singleton] at hn2
        have e : n = cks'.length := by omega
        subst e
        rw [List.getElem?_append_right (Nat.le_refl _), Nat.sub_self] at hn
        rw [List.getElem?_append_right (by rw [kl', ← kl, ← len1]; exact Nat.le_refl _), show cks'.length - kept'.length = 0 by rw [kl', ← kl, ← len1, Nat.sub_self]] at hk'
        cases hn
        cases hk'
        exact hkp6
end
end L27

open PySem L2 PyProof.Rows J

namespace L27
/-! ### checkpoint -/
def dropN : List Kp → Nat
  | [] => 0
  | _ :: r => 1 + (r.takeWhile fun k => k.left.isEmpty).length
theorem tw_len : ∀ {r : List Kp} {q : Nat}, q ≤ r.length → (∀ (n : Nat) (k' : Kp), n < q → r[n]? = some k' → k'.left = []) → (∀ k', r[q]? = some k' → k'.left ≠ []) → (r.takeWhile fun k => k.left.isEmpty).length = q
  | [], q, h, _, _ => by
    have : q = 0 := Nat.le_zero.mp h
    subst this; rfl
  | k :: r, 0, _, _, h3 => by
    have := h3 k rfl
    have e : k.left.isEmpty = false := by
      cases hk : k.left with
      | nil => exact absurd hk this
      | cons _ _ => rfl
    rw [List.takeWhile_cons_of_neg (by rw [e]; exact Bool.false_ne_true)]; rfl
  | k :: r, q + 1, h1, h2, h3 => by
    have := h2 0 k (Nat.succ_pos _) rfl
    rw [List.takeWhile_cons_of_pos (by rw [this]; rfl), List.length_cons, tw_len (r := r) (q := q) (by rw [List.length_cons] at h1; omega) (fun n k' hn hk => h2 (n + 1) k' (by omega) hk) (fun k' hk => h3 k' hk)]
theorem dropN_eq {ks : List Kp} {q : Nat} (h0 : 1 ≤ q) (h1 : q ≤ ks.length) (h2 : ∀ (n : Nat) (k' : Kp), 1 ≤ n → n < q → ks[n]? = some k' → k'.left = []) (h3 : ∀ k', ks[q]? = some k' → k'.left ≠ []) : dropN ks = q := by
  cases ks with
  | nil => exact absurd h1 (by rw [List.length_nil]; omega)
  | cons k r =>
    obtain ⟨p, rfl⟩ : ∃ p, q = p + 1 := ⟨q - 1, by omega⟩
    show 1 + (r.takeWhile fun k => k.left.isEmpty).length = p + 1
    rw [tw_len (r := r) (q := p) (by rw [List.length_cons] at h1; omega) (fun n k' hn hk => h2 (n + 1) k' (by omega) (by omega) hk) (fun k' hk => h3 k' hk)]
    omega
def ckM (M : JM) : JM := { M with kept := M.kept.drop (dropN M.kept) }
/-- the copies of a kept transaction written home -/
def homeW (s : Nat) (k : Kp) (hs : List Int) (D : DM) : DM := hs.foldl (fun D h => D.write (1 + (s : Int) + h) ((getD' k.cs h).getD .none)) D
def flD (wo : Option Str) (r : Str) (D : DM) : DM := if wo = some r then D else D.flush
def tailM (s : Nat) (M : JM) : Nat := (((M.head : Int) - sumSz M.kept) % s).toNat
def ckD (wo : Option Str) (s : Nat) (M : JM) (D : DM) : DM := match M.kept with
  | [] => D
  | k :: _ => flD wo "header" ((flD wo "tail" (homeW s k k.left D)).write 0 (hdD (firstM (ckM M)) (tailM s (ckM M))))
section
variable {P : Program} {w : World} {K : PySem.W.Frag} {mg : Str → Option Value} {base : Heap} {CDisk CLayout CJ CC : Addr} {H H' : Hp} {T : List Addr} {j L d lk dc dr : Addr} {wo : Option Str} {M : JM} {cks : List KA} {fj : List Addr}
theorem whileCut {c : TT} {tb : TS} {D : Ends} {σ : L2.St} {H : Hp} (Pv : Nat → L2.St → Hp → Prop) (Ex : L2.St → Hp → Prop) (h0 : ∃ m, Pv m σ H)
    (ht : ∀ m σ H, Pv m σ H → ∃ b, (∀ R : Bool → Hp → Prop, R b H → c σ H R) ∧ (b = true → tb { D with nx := fun σ' H' => ∃ m', m' < m ∧ Pv m' σ' H', ct := fun σ' H' => ∃ m', m' < m ∧ Pv m' σ' H', bk := D.nx } σ H) ∧ (b = false → Ex σ H)) (hex : ∀ σ H, Ex σ H → D.nx σ H) : tWhile c tb D σ H := by
  refine ⟨Pv, h0, fun m σ H p => ?_⟩
  obtain ⟨b, h1, h2, h3⟩ := ht m σ H p
  refine h1 _ ?_
  cases b with
  | true => rw [if_pos rfl]; exact ⟨_, fun _ _ h => h, h2 rfl⟩
  | false => rw [if_neg Bool.false_ne_true]; exact hex _ _ (h3 rfl)
def spCkpt (CLayout CDisk : Addr) (K : PySem.W.Frag) (CJ CC : Addr) : Sp := fun vs H Q _ => ∃ (j L d : Addr) (wo : Option Str) (M : JM) (fj fd : List Addr) (s h m : Nat) (D : DM), vs = [.ref j] ∧ JAt K CJ CC H j L d wo M fj ∧ LayAt CLayout H L s h ∧ L ∉ fj ∧ L ∉ fd ∧ DiskAt K CDisk H d fd (1 + s + h) m D ∧ Dj fj fd ∧
  m ≤ 900000 ∧ M.kept.length ≤ 1000 ∧ (∀ k ∈ M.kept, k.left.length ≤ 1000 ∧ ∀ x ∈ k.left, 0 ≤ x ∧ x < h ∧ x ∈ k.cs.map (·.1)) ∧
  ∀ fj' m' H', But (fj ++ fd) H H' → (∀ x ∈ fj', x ∈ fj ∨ H x = none) → m' ≤ m + 1003 → DiskAt K CDisk H' d fd (1 + s + h) m' (ckD wo s M D) → JAt K CJ CC H' j L d wo (ckM M) fj' → Q (.int (dropN M.kept)) H'
abbrev s_Journal_checkpoint : Stmt := inClass (top 34) 12
abbrev N_Journal_checkpoint : List Str := ["self", "oldest", "home", "dropped"]
theorem sc_Journal_checkpoint : FnScope N_Journal_checkpoint ["self"] (defScope s_Journal_checkpoint) :=
  ⟨rfl, rfl, rfl, by decide +kernel, rfl, by decide +kernel, by decide +kernel⟩

theorem ok_Journal_checkpoint {f : Addr} {fd : FuncData} (F : Fun K "checkpoint" "Journal.checkpoint" s_Journal_checkpoint f fd) (B : Bl mg) (T : TJn K CJ) (TK : TKp K CC) (M_Layout_home_block : MetW P w K mg base 3 CLayout "home_block" (spHomeBlock CLayout) [])
    (M_Disk_write : MetW P w K mg base 12 CDisk "write" (spWrite K CDisk) []) (M_Journal_flush_by : MetW P w K mg base 2 CJ "flush_by" (spJFlush K CDisk CJ CC) []) (M_Journal_numbers : MetW P w K mg base 1 CJ "numbers" (spJNums K CJ CC) [])
    (M_Journal_tail_slot : MetW P w K mg base 2 CJ "tail_slot" (spJFree CLayout K CJ CC fun s M => ((M.head : Int) - sumSz M.kept) % s) []) :
    FnW P w K mg base 13 f fd ["self"] (spCkpt CLayout CDisk K CJ CC) := by
  refine okW F sc_Journal_checkpoint (fun vs H Q E h => ?_) (fun cdv A outer s H vs Q E cc pn hw hr h => ?_)
  · obtain ⟨_, _, _, _, _, _, _, _, _, _, _, rfl, _⟩ := h
    rfl
  · obtain ⟨j, L, d, wo, M, fj, fd, sl, ho, m, D, rfl, ⟨lk, dc, dr, cks, rfl, hJ⟩, hL, hLj, hLf, hD, hdj, hm, hkl, hkll, k⟩ := h
    obtain ⟨jnd, ⟨dx, h0⟩, h1, ⟨kc, h2, h2'⟩, ⟨kr, h3, h3'⟩, kl, kk, cv⟩ := id hJ
    have hu := hu_of hr
    have nd := sc_Journal_checkpoint.nd
    obtain ⟨cl, n1, n2, n3, n4, n5, n6, n7, n8⟩ := T
    obtain ⟨tc, m1, m2, m3, m4, m5⟩ := TK
    refine ⟨_, (pss_cons (ps_if (pt_not (pt_tru (K := K) (pe_fldA (K := K) (pv 0)))) (pss_one (ps_ret pe_int)) pss_nil)
      (pss_cons (ps_set (i := 1) nd rfl (by first | exact Or.inl rfl | exact Or.inr rfl) (pe_ix (ix_any (K := K)) (pe_fldA (K := K) (pv 0)) pe_int (fun _ _ => rfl)))
      (pss_cons (ps_forW PassesOwn.never hw (pi_lstW (K := K) (pe_fldA (K := K) (pv 1))) (pg_name (i := 2) nd rfl (by first | exact Or.inl rfl | exact Or.inr rfl))
      (pss_one (ps_expr (pe_mtW M_Disk_write hw hr (by decide) (pe_fldA (K := K) (pv 0)) (pa_cons (pe_mtW M_Layout_home_block hw hr (by decide) (pe_fldA (K := K) (pv 0)) (pa_cons (pv 2) pa_nil)) (pa_cons (pe_dget hu (pe_fldA (K := K) (pv 1)) (pv 2) (fun _ _ => rfl)) pa_nil))))))
      (pss_cons (ps_expr (pe_mtW M_Journal_flush_by hw hr (by decide) (pv 0) (pa_cons pe_str pa_nil)))
      (pss_cons (ps_set (i := 3) nd rfl (by first | exact Or.inl rfl | exact Or.inr rfl) pe_int)
      (pss_cons (ps_while PassesOwn.never (PW.pt (pw_and (pt_cmpR op_ltA (pv 3) (pe_callB (call_lenA (K := K)) rfl B.len PySem.boot_len (pa_cons (pe_fldA (K := K) (pv 0)) pa_nil)) (nomark _)) (pw_and1 (pt_not (pt_tru (K := K) (pe_fldA (K := K) (pe_ix (ix_any (K := K)) (pe_fldA (K := K) (pv 0)) (pv 3) (fun _ _ => rfl))))))))
      (pss_one (ps_aug (i := 3) nd rfl (by first | exact Or.inl rfl | exact Or.inr rfl) pe_int ip_addA)))
      (pss_cons (ps_fldA (K := K) (pv 0) (pe_slice (sl_any (K := K)) (pe_fldA (K := K) (pv 0)) (po_some (pv 3)) po_none))
      (pss_cons (ps_expr (pe_mtW M_Disk_write hw hr (by decide) (pe_fldA (K := K) (pv 0)) (pa_cons pe_int (pa_cons (pe_tup (pa_cons pe_str (pa_cons (pe_ix (ix_any (K := K)) (pe_mtW0 M_Journal_numbers hw hr (by decide) (pv 0)) pe_int (fun _ _ => rfl)) (pa_cons (pe_mtW0 M_Journal_tail_slot hw hr (by decide) (pv 0)) pa_nil)))) pa_nil))))
      (pss_cons (ps_expr (pe_mtW M_Journal_flush_by hw hr (by decide) (pv 0) (pa_cons pe_str pa_nil)))
      (pss_one (ps_ret (pv 3)))))))))))), ?_⟩
    repeat walk_at "s"
    refine ⟨_, .inl ⟨_, .of h1, rfl⟩, ?_⟩
    cases cks with
    | nil =>
      have e : M.kept = [] := List.length_eq_zero_iff.mp (by rw [← kl]; rfl)
      refine r_iteT rfl ?_
      repeat walk_at "s"
      have eM : ckM M = M := by unfold ckM; rw [e]; cases M; simp_all
      have eN : dropN M.kept = 0 := by rw [e]; rfl
      have eD : ckD wo sl M D = D := by unfold ckD; rw [e]
      have := k _ m H .refl (fun x hx => .inl hx) (by omega) (by rw [eD]; exact hD) (by rw [eM]; exact ⟨lk, dc, dr, [], rfl, hJ⟩)
      rw [eN] at this
      exact this
    | cons a cks =>
      obtain ⟨kp, kr', e⟩ : ∃ kp kr, M.kept = kp :: kr := by
        cases hk : M.kept with
        | nil => rw [hk] at kl; cases kl
        | cons kp kr => exact ⟨kp, kr, rfl⟩
      refine r_iteF rfl ?_
      repeat walk_at "s"
      refine r_ixL (.of h1) (atI_nat (j := 0) rfl) ?_
      repeat walk_at "s"
      have hkk := hkll kp (by rw [e]; exact List.mem_cons_self)
      have kp0 := kk 0 a kp rfl (by rw [e]; rfl)
      obtain ⟨dxc, kvs, g0, g1, g2, g3, g4, g5⟩ := id kp0
      have inF : ∀ x ∈ jAll j lk dc dr (a :: cks), x ∉ fd := fun x hx => hdj x hx
      have nfd : ∀ {x : Addr} , x ∈ fd → x ∉ jAll j lk dc dr (a :: cks) := fun h z => hdj _ z h
      have aIn : ∀ x ∈ a.all, x ∉ fd := fun x hx => hdj x (by simp only [jAll, List.mem_cons, List.flatMap_cons, List.mem_append]; exact .inr (.inr (.inr (.inr (.inl hx)))))
      have jIn : j ∉ fd := hdj j (by simp [jAll])
      have lIn : lk ∉ fd := hdj lk (by simp [jAll])
      repeat walk_at "s"
      refine forL (.of g4) (fun i σ H' => ∃ o2 o3, σ = [some (.ref j), some (.ref a.c), o2, o3] ∧ But fd H H' ∧ DiskAt K CDisk H' d fd (1 + sl + ho) (m + i) (homeW sl kp (kp.left.take i) D))
        ⟨_, _, rfl, .refl, hD⟩ ?_ ?_ ?_
      · rintro i σ H1 hi ⟨o2, o3, rfl, b1, hD1⟩
        exact .of (b1.at g4 (aIn _ (by simp [KA.all])))
      · rintro i y σ H1 hi ⟨o2, o3, rfl, b1, hD1⟩
        obtain ⟨x, hx, rfl⟩ := map_getG hi
        obtain ⟨hx0, hx1, hx2⟩ := hkk.2 x (List.mem_of_getElem? hx)
        have hil := (List.getElem?_eq_some_iff.mp hx).1
        obtain ⟨dv, hdv⟩ := mem_keys hx2
        have hdm := getD_mem hdv
        obtain ⟨v, hv, hvd⟩ := (g2.nlb (S' := []) (fun c hc => (g5 c hc).nol) b1).some hdv
        have h01 := b1.at h0 jIn
        have gc1 := b1.at g0 (aIn _ (by simp [KA.all]))
        have gd1 := b1.at g1 (aIn _ (by simp [KA.all]))
        have hL1 := hL.but b1 hLf
        obtain ⟨dl, hLx⟩ := hL1.ex
        obtain ⟨dxd, l1, l2, l3, l4, x1, x2, x3, x4, efd, hnd, q0, _⟩ := id hD1.ex
        have step : homeW sl kp (kp.left.take (i + 1)) D = (homeW sl kp (kp.left.take i) D).write (1 + (sl : Int) + x) dv := by
          have h9 : homeW sl kp (kp.left.take (i + 1)) D = (homeW sl kp (kp.left.take i) D).write (1 + (sl : Int) + x) ((getD' kp.cs x).getD .none) := foldl_takeG hx
          rw [h9, hdv]; rfl
        repeat walk_at "s"
        refine r_methAt q0 (by with_unfolding_all rfl) ?_
        repeat walk_at "s"
        refine r_methAt hLx (by with_unfolding_all rfl) ?_
        repeat walk_at "s"
        refine ⟨L, sl, ho, x, rfl, hL1, hx0, hx1, ?_⟩
        repeat walk_at "s"
        refine r_dAt gd1 hv ?_
        repeat walk_at "s"
        have hk1 := hkk.1
        refine ⟨d, fd, _, _, _, _, v, [], dv, rfl, hD1, by omega, by omega, by omega, hvd, (g5 _ hdm).blk, fun H2 b2 hD2 => ?_⟩
        refine ⟨_, _, rfl, b1.trans b2, ?_⟩
        rw [step]; exact hD2
      rintro σ H1 ⟨o2, o3, rfl, b1, hD1⟩
      rw [List.length_map] at hD1
      rw [List.take_length] at hD1
      have hJ1 := hJ.but b1 (fun x hx => inF x hx)
      have hL1 := hL.but b1 hLf
      have hk1 := hkk.1
      obtain ⟨dx1, h01⟩ := hJ1.h0
      clear g2
      repeat walk_at "s"
      refine r_methAt h01 (by with_unfolding_all rfl) ?_
      repeat walk_at "s"
      refine ⟨j, L, d, wo, M, _, fd, _, _, _, "tail", rfl, ⟨lk, dc, dr, _, rfl, hJ1⟩, hD1, by omega, by decide +kernel, fun H2 b2 hD2 => ?_⟩
      have b02 : But fd H H2 := b1.trans b2
      have hJ2 := hJ.but b02 (fun x hx => inF x hx)
      have hL2 := hL.but b02 hLf
      have h12 := hJ2.h1
      obtain ⟨dx2, h02⟩ := hJ2.h0
      clear b1 b2 hD1 hJ1 hL1 h01
      repeat walk_at "s"
      have klM : 1 ≤ M.kept.length := by rw [e]; exact Nat.succ_pos _
      refine whileCut (fun m' σ H' => ∃ q : Nat, m' = M.kept.length - q ∧ σ = [some (.ref j), some (.ref a.c), o2, some (.int q)] ∧ H' = H2 ∧ 1 ≤ q ∧ q ≤ M.kept.length ∧ ∀ (n : Nat) (k' : Kp), 1 ≤ n → n < q → M.kept[n]? = some k' → k'.left = [])
        (fun σ H' => σ = [some (.ref j), some (.ref a.c), o2, some (.int (dropN M.kept : Nat))] ∧ H' = H2) ⟨_, 1, rfl, rfl, rfl, Nat.le_refl _, klM, fun n k' h1 h2 => absurd h1 (by omega)⟩ ?_ ?_
      · rintro m' σ H' ⟨q, rfl, rfl, rfl, hq1, hq, hall⟩
        by_cases hlt : q < M.kept.length
        · obtain ⟨k', hk'⟩ : ∃ k', M.kept[q]? = some k' := ⟨_, List.getElem?_eq_getElem hlt⟩
          obtain ⟨a', ha'⟩ : ∃ a', (a :: cks)[q]? = some a' := ⟨_, List.getElem?_eq_getElem (by rw [kl]; exact hlt)⟩
          obtain ⟨dxq, kvq, u0, u1, u2, u3, u4, u5⟩ := hJ2.kk q a' k' ha' hk'
          refine ⟨k'.left.isEmpty, fun R hR => ?_, fun hb => ?_, fun hb => ⟨?_, rfl⟩⟩
          · repeat walk_at "s"
            refine r_iteT (by rw [List.length_map, kl]; exact decide_eq_true (by omega)) ?_
            repeat walk_at "s"
            refine r_ixL (.of h12) (atI_nat (j := q) (by rw [List.getElem?_map, ha']; rfl)) ?_
            repeat walk_at "s"
            refine ⟨_, .inl ⟨_, .of u4, rfl⟩, ?_⟩
            have eb : (!(!(k'.left.map V.int).isEmpty)) = k'.left.isEmpty := by cases k'.left <;> rfl
            rw [eb]; exact hR
          · repeat walk_at "s"
            refine ⟨M.kept.length - (q + 1), by omega, q + 1, rfl, rfl, rfl, by omega, by omega, fun n k2 h1 h2 hk2 => ?_⟩
            by_cases e2 : n = q
            · subst e2
              rw [hk'] at hk2
              cases hk2
              exact List.isEmpty_iff.mp hb
            · exact hall n k2 h1 (by omega) hk2
          · have : dropN M.kept = q := dropN_eq hq1 hq hall (fun k2 hk2 => by
              rw [hk'] at hk2
              cases hk2
              intro z
              rw [z] at hb; cases hb)
            rw [this]
        · refine ⟨false, fun R hR => ?_, (fun z => by cases z), fun _ => ⟨?_, rfl⟩⟩
          · repeat walk_at "s"
            refine r_iteF (by rw [List.length_map, kl]; exact decide_eq_false (by omega)) ?_
            exact hR
          · have : dropN M.kept = q := dropN_eq hq1 hq hall (fun k2 hk2 => by
              have := (List.getElem?_eq_some_iff.mp hk2).1
              omega)
            rw [this]
      rintro σ H' ⟨rfl, rfl⟩
      repeat walk_at "s"
      refine r_slL (.of h12) (fun lk2 H3 hlk s3 hlk3 => ?_)
      rw [cut_from, ← List.map_drop] at hlk3
      obtain ⟨q, hq⟩ : ∃ q, dropN M.kept = q := ⟨_, rfl⟩
      have eM : ckM M = { M with kept := M.kept.drop q } := by unfold ckM; rw [hq]
      rw [hq] at hlk3 k ⊢
      have nlj : lk2 ≠ j := fun z => live_of h02 (z ▸ hlk)
      have lv2 := hJ2.live
      have nl2 : lk2 ∉ jAll j lk dc dr (a :: cks) := fun z => lv2 lk2 z hlk
      repeat walk_at "s"
      refine r_setAt (s3 _ _ h02) cl n6 (Nat.le_of_ble_eq_true rfl) (fun H4 b4 h04 => ?_)
      have dsub : ∀ x ∈ ((a :: cks).drop q).flatMap KA.all, x ∈ (a :: cks).flatMap KA.all := fun x hx => by
        obtain ⟨a', ha2, hx2⟩ := List.mem_flatMap.mp hx
        exact List.mem_flatMap.mpr ⟨a', List.mem_of_mem_drop ha2, hx2⟩
      have jn := jnd
      simp only [List.nodup_cons, List.mem_cons, not_or] at jn
      obtain ⟨⟨j1, j2, j3, j4⟩, ⟨j5, j6, j7⟩, ⟨j8, j9⟩, j10, j11⟩ := jn
      have nl3 := nl2
      simp only [jAll, List.mem_cons, not_or] at nl3
      have b24 : But [j] H' H4 := (But.of_same s3).trans b4
      have hJ4 : JIn K CJ CC H4 j L d wo (ckM M) lk2 dc dr ((a :: cks).drop q) := by
        obtain ⟨ynd, ⟨ydx, y0⟩, y1, ⟨ykc, y2, y2'⟩, ⟨ykr, y3, y3'⟩, ykl, ykk, ycv⟩ := id hJ2
        rw [eM]
        refine ⟨?_, ⟨dx2, h04⟩, b4.at hlk3 (by simpa using nlj), ⟨ykc, b24.at y2 (by simpa using Ne.symm j2), y2'.nlb (fun c hc => (ycv c hc).nol) b24⟩, ⟨ykr, b24.at y3 (by simpa using Ne.symm j3), y3'⟩, by rw [List.length_drop, List.length_drop, ykl], fun n a' k' hn hk' => ?_, ycv⟩
        · have sl2 : (((a :: cks).drop q).flatMap KA.all).Sublist ((a :: cks).flatMap KA.all) := by
            have e9 : (a :: cks).flatMap KA.all = ((a :: cks).take q).flatMap KA.all ++ ((a :: cks).drop q).flatMap KA.all := by rw [← List.flatMap_append, List.take_append_drop]
            rw [e9]; exact List.sublist_append_right _ _
          simp only [List.nodup_cons, List.mem_cons, not_or]
          exact ⟨⟨Ne.symm nlj, j2, j3, fun z => j4 (dsub _ z)⟩, ⟨nl3.2.2.1, nl3.2.2.2.1, fun z => nl3.2.2.2.2 (dsub _ z)⟩, ⟨j8, fun z => j9 (dsub _ z)⟩, fun z => j10 (dsub _ z), j11.sublist sl2⟩
        · rw [List.getElem?_drop] at hn hk'
          refine (ykk _ a' k' hn hk').but b24 fun x hx z => j4 ?_
          rw [← List.mem_singleton.mp z]
          exact List.mem_flatMap.mpr ⟨a', List.mem_of_getElem? hn, hx⟩
      have hD4 := hD2.but b24 (fun z hz z2 => jIn (by rw [← List.mem_singleton.mp z2]; exact hz))
      have hL4 := hL2.but b24 (fun z => hLj (by rw [List.mem_singleton.mp z]; simp [jAll]))
      have frl : H lk2 = none := b02.free hlk
      have B4 : BtW (j :: fd) H H4 := ⟨(b02.sub (fun z hz => List.mem_cons_of_mem _ hz)).trans (b24.sub (by simp))⟩
      clear b24 b4 s3 b02 hJ2 hD2 hL2 h12 h02 hlk3
      obtain ⟨dx4, h04'⟩ := hJ4.h0
      obtain ⟨dxd, l1, l2, l3, l4, x1, x2, x3, x4, efd, hnd, q0, _⟩ := id hD4.ex
      clear h04
      repeat walk_at "s"
      refine r_methAt q0 (by with_unfolding_all rfl) ?_
      repeat walk_at "s"
      refine r_methAt h04' (by with_unfolding_all rfl) ?_
      repeat walk_at "s"
      refine ⟨j, L, d, wo, ckM M, _, rfl, ⟨lk2, dc, dr, _, rfl, hJ4⟩, fun t H5 s5 ht => ?_⟩
      repeat walk_at "s"
      have hs8 := hL.s1
      have et : ((((ckM M).head : Int) - sumSz (ckM M).kept) % sl : Int) = (tailM sl (ckM M) : Int) := by
        unfold tailM
        rw [Int.toNat_of_nonneg (Int.emod_nonneg _ (by omega))]
      have hJ5 := hJ4.but (But.of_same (S := []) s5) Dj.nil
      obtain ⟨dx5, h05⟩ := hJ5.h0
      have klc : (ckM M).kept.length ≤ 1000 := by rw [eM]; show (M.kept.drop q).length ≤ 1000; rw [List.length_drop]; omega
      refine r_methAt h05 (by with_unfolding_all rfl) ?_
      repeat walk_at "s"
      refine ⟨j, L, d, wo, ckM M, _, sl, ho, rfl, ⟨lk2, dc, dr, _, rfl, hJ5⟩, hL4.same s5, klc, fun H6 s6 => ?_⟩
      dsimp only
      rw [et]
      repeat walk_at "s"
      refine r_newT (sz (Nat.le_of_ble_eq_true rfl)) (fun TH H7 hTH s7 hTH7 => ?_)
      have hdn : Dn K [] H7 (.ref TH) (hdD (firstM (ckM M)) (tailM sl (ckM M))) := .tup (.of hTH7) (.cons (.str _) (.cons (.int _) (.one (.int _))))
      have hdb : blockB (hdD (firstM (ckM M)) (tailM sl (ckM M))) = true := by
        unfold blockB hdD
        have e3 : (PyData.tuple [.str "tail", .int (firstM (ckM M)), .int (tailM sl (ckM M) : Nat)]).canLay0 = (PyData.strOk "tail" && true) := rfl
        rw [e3, show PyData.strOk "tail" = true by decide +kernel]; rfl
      have s47 : Same H4 H7 := fun b o e => s7 b o (s6 b o (s5 b o e))
      refine ⟨d, fd, _, _, _, 0, _, [], hdD (firstM (ckM M)) (tailM sl (ckM M)), rfl, hD4.same s47, by omega, by omega, by omega, hdn, hdb, fun H8 b8 hD8 => ?_⟩
      have dj4 : Dj (jAll j lk2 dc dr ((a :: cks).drop q)) fd := fun x hx z => by
        simp only [jAll, List.mem_cons] at hx
        rcases hx with rfl | rfl | rfl | rfl | hx
        · exact jIn z
        · exact hD.live _ z frl
        · exact hdj x (by simp [jAll]) z
        · exact hdj x (by simp [jAll]) z
        · exact hdj x (by simp only [jAll, List.mem_cons]; exact .inr (.inr (.inr (.inr (dsub x hx))))) z
      have b48 : But fd H4 H8 := (But.of_same s47).trans b8
      have hJ8 := hJ4.but b48 dj4
      obtain ⟨dx8, h08⟩ := hJ8.h0
      have B8 : BtW (j :: fd) H H8 := ⟨B4.b.trans (b48.sub fun z hz => List.mem_cons_of_mem _ hz)⟩
      clear b48 b8 s47 s7 s6 s5 hJ5 h05 hdn hD4 hJ4 h04' hTH7
      repeat walk_at "s"
      refine r_methAt h08 (by with_unfolding_all rfl) ?_
      repeat walk_at "s"
      refine ⟨j, L, d, wo, ckM M, _, fd, _, _, _, "header", rfl, ⟨lk2, dc, dr, _, rfl, hJ8⟩, hD8, by omega, by decide +kernel, fun H9 b9 hD9 => ?_⟩
      repeat walk_at "s"
      refine k (jAll j lk2 dc dr ((a :: cks).drop q)) (m + kp.left.length + 1 + 1 + 1) H9 ((B8.b.sub (fun z hz => ?_)).trans (b9.sub fun z hz => List.mem_append_right _ hz)) (fun x hx => ?_) (by omega) ?_ ⟨lk2, dc, dr, _, rfl, hJ8.but b9 dj4⟩
      · rcases List.mem_cons.mp hz with e1 | e1
        · rw [e1]; simp [jAll]
        · exact List.mem_append_right _ e1
      · simp only [jAll, List.mem_cons] at hx
        rcases hx with rfl | rfl | rfl | rfl | hx
        · left; simp [jAll]
        · exact .inr frl
        · left; simp [jAll]
        · left; simp [jAll]
        · left; simp only [jAll, List.mem_cons]; exact .inr (.inr (.inr (.inr (dsub x hx))))
      · have eD : ckD wo sl M D = flD wo "header" ((flD wo "tail" (homeW sl kp kp.left D)).write 0 (hdD (firstM (ckM M)) (tailM sl (ckM M)))) := by
          unfold ckD
          rw [e]
        rw [eD]
        exact hD9
end
end L27

open PySem L2 PyProof.Rows J

namespace L27
/-! ### the exceptions -/
def foWhy : List V → Option (List (Str × V))
  | [y] => some [("why", y)]
  | _ => none
def foSpace : List V → Option (List (Str × V))
  | [x, y] => some [("free", y), ("needed", x), ("why", .str "space")]
  | _ => none
section
variable {P : Program} {w : World} {K : PySem.W.Frag} {mg : Str → Option Value} {base : Heap}
abbrev s_LogError_init : Stmt := inClass (top 2) 0
abbrev N_LogError_init : List Str := ["self", "why"]
theorem sc_LogError_init : FnScope N_LogError_init ["self", "why"] (defScope s_LogError_init) :=
  ⟨rfl, rfl, rfl, by decide +kernel, rfl, by decide +kernel, by decide +kernel⟩

theorem ok_LogError_init {f : Addr} {fd : FuncData} {dvs : List V} {kws : List (Str × V)} (F : FunD K "__init__" "LogError.__init__" (defArgs s_LogError_init) (defBody s_LogError_init) (defScope s_LogError_init) dvs kws f fd) (B : Bl mg)
    (vV : PySem.W.findCls K (.type "ValueError") (.type "type") "__init__" = some (.val (.builtin "ValueError.__init__"))) :
    FnOk P w K mg base CX0 1 f fd ["self", "why"] (spX K ["why"] foWhy) := by
  refine F.ok sc_LogError_init (fun vs H Q E h => ?_) (fun cdv A outer s H vs Q E hr h => ?_)
  · obtain ⟨a, C, ws, fs, rfl, hf, _⟩ := h
    match ws, hf with
    | [y], _ => rfl
  · obtain ⟨a, C, ws, fs, rfl, hf, T, hn, ha, k⟩ := h
    obtain ⟨y, rfl, rfl⟩ : ∃ y, ws = [y] ∧ fs = [(("why" : Str), y)] := by
      match ws, hf with
      | [y], hf => exact ⟨y, rfl, (Option.some.inj hf).symm⟩
    have nd := sc_LogError_init.nd
    refine ⟨_, (pss_cons (ps_expr (pe_veinit rfl B.ValueError vV (pa_cons (pv 0) (pa_cons (pv 1) pa_nil))))
      (pss_one (ps_ost (pv 0) (pv 1)))), ?_⟩
    repeat walk_at "s"
    refine ⟨a, C, [y], rfl, Nat.le_of_ble_eq_true rfl, T, ha, ?_⟩
    repeat walk_at "s"
    refine ⟨a, C, rfl, T, hn "why" List.mem_cons_self, .inl ⟨ha, fun dx hd hda => ?_⟩⟩
    refine k dx _ hd hda upd_same ?_ (fun b hb hb2 => ?_)
    · rw [upd_ne hda]; exact upd_same
    · rw [upd_ne hb, upd_ne hb2]
abbrev s_NoSpace_init : Stmt := inClass (top 7) 0
abbrev N_NoSpace_init : List Str := ["self", "needed", "free"]
theorem sc_NoSpace_init : FnScope N_NoSpace_init ["self", "needed", "free"] (defScope s_NoSpace_init) :=
  ⟨rfl, rfl, rfl, by decide +kernel, rfl, by decide +kernel, by decide +kernel⟩

theorem ok_NoSpace_init {f : Addr} {fd : FuncData} (F : Fun K "__init__" "NoSpace.__init__" s_NoSpace_init f fd) (N_LogError_init : CFn P w K mg base CX0 1 "LogError" "__init__" (spX K ["why"] foWhy)) :
    FnOk P w K mg base CX0 2 f fd ["self", "needed", "free"] (spX K ["why", "needed", "free"] foSpace) := by
  refine F.ok sc_NoSpace_init (fun vs H Q E h => ?_) (fun cdv A outer s H vs Q E hr h => ?_)
  · obtain ⟨a, C, ws, fs, rfl, hf, _⟩ := h
    match ws, hf with
    | [x, y], _ => rfl
  · obtain ⟨a, C, ws, fs, rfl, hf, T, hn, ha, k⟩ := h
    obtain ⟨x, y, rfl, rfl⟩ : ∃ x y, ws = [x, y] ∧ fs = [(("free" : Str), y), ("needed", x), ("why", .str "space")] := by
      match ws, hf with
      | [x, y], hf => exact ⟨x, y, rfl, (Option.some.inj hf).symm⟩
    have nd := sc_NoSpace_init.nd
    refine ⟨_, (pss_cons (ps_expr (pe_cfn (E := fun _ => E0) N_LogError_init hr (by decide) pass00 (pa_cons (pv 0) (pa_cons pe_str pa_nil))))
      (pss_cons (ps_ost (pv 0) (pv 1))
      (pss_one (ps_ost (pv 0) (pv 2))))), ?_⟩
    repeat walk_at "s"
    refine ⟨a, C, [.str "space"], _, rfl, rfl, T, fun n h => hn n (by rw [List.mem_singleton.mp h]; exact List.mem_cons_self), ha, fun dx H1 hd hda h1 h2 h3 => ?_⟩
    repeat walk_at "s"
    refine ⟨a, C, rfl, T, hn "needed" (by simp), .inr ⟨dx, _, h1, h2, Nat.le_of_ble_eq_true rfl, ?_⟩⟩
    repeat walk_at "s"
    refine ⟨a, C, rfl, T, hn "free" (by simp), .inr ⟨dx, _, by rw [upd_ne (Ne.symm hda)]; exact h1, upd_same, Nat.le_of_ble_eq_true rfl, ?_⟩⟩
    refine k dx _ hd hda ?_ upd_same (fun b hb hb2 => ?_)
    · rw [upd_ne (Ne.symm hda), upd_ne (Ne.symm hda)]; exact h1
    · rw [upd_ne hb2, upd_ne hb2, h3 b hb hb2]
end
end L27

set_option Elab.async false
set_option linter.all false
set_option maxRecDepth 100000
set_option maxHeartbeats 4000000
open PySem L2 PyProof.Rows J
namespace L27
/-! ### right states; commit told -/
/-- a right kept transaction -/
structure KOk (h : Nat) (k : Kp) : Prop where
  sz : 1 ≤ k.size
  po : PartsOk k.cs k.rs
  hi : ∀ c ∈ k.cs, c.1 < h
  ll : k.left.Sublist (k.cs.map (·.1))
/-- a right journal on s slots, h homes -/
structure MOk (s h : Nat) (M : JM) : Prop where
  s1 : 8 ≤ s
  s2 : s ≤ 64
  h2 : h ≤ 32
  nx : 1 ≤ M.next
  hd : M.head < s
  cn : (M.cop.map (·.1)).Nodup
  cr : ∀ c ∈ M.cop, 0 ≤ c.1 ∧ c.1 < h
  cv : ∀ c ∈ M.cop, RvOk c.2
  rn : M.rev.Nodup
  rr : ∀ r ∈ M.rev, 0 ≤ r ∧ r < h
  kp : ∀ k ∈ M.kept, KOk h k
  sz : sumSz M.kept ≤ s
  up : (M.kept.map (·.num)).Pairwise (· < ·)
  lo : ∀ k ∈ M.kept, 1 ≤ k.num ∧ k.num < M.next
theorem asc_sort {h : Nat} {l : List Int} (n : l.Nodup) (r : ∀ x ∈ l, 0 ≤ x ∧ x < h) : Asc h (sortI l) := by
  refine ⟨?_, fun x hx => (r x ((sortI_perm l).mem_iff.mp hx)).1, fun x hx => (r x ((sortI_perm l).mem_iff.mp hx)).2⟩
  have n2 : (sortI l).Pairwise (· ≠ ·) := (sortI_perm l).nodup_iff.mpr n
  exact (List.pairwise_and_iff.mpr ⟨sortI_up l, n2⟩).imp fun ⟨a, b⟩ => by omega
theorem asc_sub {c : Int} {l m : List Int} (h : Asc c l) (s : m.Sublist l) : Asc c m := ⟨h.up.sublist s, fun x hx => h.lo x (s.subset hx), fun x hx => h.hi x (s.subset hx)⟩
theorem sortC_keys (m : List (Int × PyData)) : (sortC m).map (·.1) = sortI (m.map (·.1)) := by
  unfold sortC
  rw [List.map_map]
  exact List.map_id' _
def cmRev (wo : Option Str) (M : JM) : List Int := if wo = some ("revoke" : Str) then [] else needM M
def cmRecs (wo : Option Str) (M : JM) : List Rc := recs (sortC M.cop) (cmRev wo M)
def cmKp (wo : Option Str) (M : JM) : Kp := ⟨M.next, (cmRecs wo M).length, sortC M.cop, cmRev wo M, (sortC M.cop).map (·.1)⟩
def cmM (wo : Option Str) (s : Nat) (M : JM) : JM := keepM wo s (cmKp wo M) (sortI M.rev) M
/-- a record is written; ahead of the last one a flush -/
def wrF (wo : Option Str) (s head n : Nat) (num : Int) (D : DM) (q : Rc × Nat) : DM := (if q.2 + 1 = n then flD wo "commit" D else D).write (1 + (((head + q.2) % s : Nat) : Int)) (rcD num q.1)
def wrA (wo : Option Str) (s head : Nat) (num : Int) (rs : List Rc) (i : Nat) (D : DM) : DM := (rs.zipIdx.take i).foldl (wrF wo s head rs.length num) D
def cmD (wo : Option Str) (s : Nat) (M : JM) (D : DM) : DM := flD wo "settle" (wrA wo s M.head M.next (cmRecs wo M) (cmRecs wo M).length D)
def cmNone (M : JM) : Bool := M.cop.isEmpty && M.rev.isEmpty
section
variable {s h : Nat} {M : JM} {wo : Option Str}
theorem MOk.kl (o : MOk s h M) : M.kept.length ≤ s := by
  have : ∀ ks : List Kp, (∀ k ∈ ks, KOk h k) → ks.length ≤ sumSz ks := by
    intro ks hk
    induction ks with
    | nil => exact Nat.zero_le _
    | cons k r ih =>
      have h1 := (hk k List.mem_cons_self).sz
      have h2 := ih fun k' h' => hk k' (List.mem_cons_of_mem _ h')
      unfold sumSz at h2 ⊢
      rw [List.map_cons, List.sum_cons, List.length_cons]; omega
  exact Nat.le_trans (this _ o.kp) o.sz
theorem MOk.ascC (o : MOk s h M) : Asc h ((sortC M.cop).map (·.1)) := by
  rw [sortC_keys]
  exact asc_sort o.cn fun x hx => by
    obtain ⟨c, hc, rfl⟩ := List.mem_map.mp hx
    exact o.cr c hc
theorem MOk.ascR (o : MOk s h M) : Asc h (sortI M.rev) := asc_sort o.rn o.rr
theorem MOk.h32 (o : MOk s h M) : (h : Int) ≤ 32 := by have := o.h2; omega
theorem MOk.cl (o : MOk s h M) : M.cop.length ≤ 32 := by
  have := (o.ascC.mono o.h32).len32
  rwa [List.length_map, sortC_len] at this
theorem MOk.rl (o : MOk s h M) : M.rev.length ≤ 32 := by
  have := (o.ascR.mono o.h32).len32
  rwa [sortI_len] at this
theorem cmRev_sub (wo : Option Str) (M : JM) : (cmRev wo M).Sublist (sortI M.rev) := by
  unfold cmRev
  split
  · exact List.nil_sublist _
  · exact List.filter_sublist
theorem MOk.parts (o : MOk s h M) (wo : Option Str) : PartsOk (sortC M.cop) (cmRev wo M) :=
  ⟨o.ascC.mono o.h32, fun c hc => o.cv c (sortC_mem hc), asc_sub (o.ascR.mono o.h32) (cmRev_sub wo M)⟩
theorem recs_len (cs : List (Int × PyData)) (rs : List Int) : (recs cs rs).length ≤ n8 rs + 9 * n8 cs + 1 ∧ 1 ≤ (recs cs rs).length := by
  unfold recs
  rw [List.length_append, List.length_append, revUp_len]
  have := descUp_len cs (n8 cs)
  rw [List.length_singleton]; omega
theorem MOk.recl (o : MOk s h M) (wo : Option Str) : (cmRecs wo M).length ≤ 41 ∧ 1 ≤ (cmRecs wo M).length := by
  have h1 := recs_len (sortC M.cop) (cmRev wo M)
  have h2 := o.cl
  have h3 := (cmRev_sub wo M).length_le
  have h4 := o.rl
  rw [sortI_len] at h3
  have e1 : n8 (sortC M.cop) = ((sortC M.cop).length + 7) / 8 := rfl
  have e2 : n8 (cmRev wo M) = ((cmRev wo M).length + 7) / 8 := rfl
  rw [sortC_len] at e1
  unfold cmRecs; omega
theorem MOk.log (o : MOk s h M) {home : Int} {v : PyData} (h0 : 0 ≤ home) (h1 : home < h) (hv : RvOk v) : MOk s h (logM wo home v M) := by
  have hs : (logM wo home v M).rev.Sublist M.rev := by
    unfold logM
    dsimp only
    split
    · exact .refl _
    · exact List.filter_sublist
  exact ⟨o.s1, o.s2, o.h2, o.nx, o.hd, putD_keys o.cn, fun c hc => (putD_mem hc).elim (o.cr c) fun e => by rw [e]; exact ⟨h0, h1⟩, fun c hc => (putD_mem hc).elim (o.cv c) fun e => by rw [e]; exact hv,
    o.rn.sublist hs, fun r hr => o.rr r (hs.subset hr), o.kp, o.sz, o.up, o.lo⟩
theorem MOk.revoke (o : MOk s h M) {home : Int} (h0 : 0 ≤ home) (h1 : home < h) : MOk s h (revM wo home M) := by
  have hs : ∀ c ∈ (revM wo home M).cop, c ∈ M.cop := by
    unfold revM
    dsimp only
    split
    · exact fun c hc => hc
    · exact fun c hc => (dropD_mem hc).1
  refine ⟨o.s1, o.s2, o.h2, o.nx, o.hd, ?_, fun c hc => o.cr c (hs c hc), fun c hc => o.cv c (hs c hc), ?_, ?_, o.kp, o.sz, o.up, o.lo⟩
  · unfold revM
    dsimp only
    split
    · exact o.cn
    · exact dropD_keys o.cn
  · unfold revM
    dsimp only
    split
    · exact o.rn
    · rename_i hn
      exact List.nodup_append.mpr ⟨o.rn, by simp, fun a ha b hb e => hn (by rw [← List.mem_singleton.mp hb, ← e]; exact ha)⟩
  · unfold revM
    dsimp only
    split
    · exact o.rr
    · intro r hr
      rcases List.mem_append.mp hr with hr | hr
      · exact o.rr r hr
      · rw [List.mem_singleton.mp hr]; exact ⟨h0, h1⟩
theorem forgK_ok {k : Kp} {hs : List Int} (o : KOk h k) : KOk h (forgK hs k) := ⟨o.sz, o.po, o.hi, List.filter_sublist.trans o.ll⟩
theorem cmKp_ok (o : MOk s h M) (wo : Option Str) : KOk h (cmKp wo M) := ⟨(o.recl wo).2, o.parts wo, fun c hc => (o.cr c (sortC_mem hc)).2, .refl _⟩
def forgA (wo : Option Str) (M : JM) : List Kp := if wo = some ("forget" : Str) then M.kept else M.kept.map (forgK ((sortC M.cop).map (·.1) ++ sortI M.rev))
theorem forgA_sz (wo : Option Str) (M : JM) : sumSz (forgA wo M) = sumSz M.kept := by
  unfold forgA
  split
  · rfl
  · unfold sumSz
    rw [List.map_map]; rfl
theorem forgA_num (wo : Option Str) (M : JM) : (forgA wo M).map (·.num) = M.kept.map (·.num) := by
  unfold forgA
  split
  · rfl
  · rw [List.map_map]; rfl
theorem forgA_all {wo : Option Str} {M : JM} {R : Kp → Prop} (h : ∀ k ∈ M.kept, R k) (hf : ∀ k hs, R k → R (forgK hs k)) : ∀ k ∈ forgA wo M, R k := by
  unfold forgA
  split
  · exact h
  · intro k hk
    obtain ⟨k', h', rfl⟩ := List.mem_map.mp hk
    exact hf _ _ (h k' h')
theorem cmM_eq (wo : Option Str) (s : Nat) (M : JM) : cmM wo s M = ⟨M.next + 1, (M.head + (cmRecs wo M).length) % s, forgA wo M ++ [cmKp wo M], [], []⟩ := rfl
theorem sumSz_append (a b : List Kp) : sumSz (a ++ b) = sumSz a + sumSz b := by
  unfold sumSz
  rw [List.map_append, List.sum_append]
theorem MOk.commit (o : MOk s h M) (hf : (cmRecs wo M).length + sumSz M.kept ≤ s) : MOk s h (cmM wo s M) := by
  rw [cmM_eq]
  refine ⟨o.s1, o.s2, o.h2, by have := o.nx; show 1 ≤ M.next + 1; omega, Nat.mod_lt _ (by have := o.s1; omega), List.nodup_nil, by simp, by simp, List.nodup_nil, by simp, fun k hk => ?_, ?_, ?_, fun k hk => ?_⟩
  · rcases List.mem_append.mp hk with hk | hk
    · exact forgA_all o.kp (fun k hs => forgK_ok) k hk
    · rw [List.mem_singleton.mp hk]; exact cmKp_ok o wo
  · show sumSz (forgA wo M ++ [cmKp wo M]) ≤ s
    rw [sumSz_append, forgA_sz]
    have : sumSz [cmKp wo M] = (cmRecs wo M).length := by
      unfold sumSz
      simp [cmKp]
    omega
  · show ((forgA wo M ++ [cmKp wo M]).map (·.num)).Pairwise (· < ·)
    rw [List.map_append, forgA_num]
    refine List.pairwise_append.mpr ⟨o.up, List.pairwise_singleton _ _, fun a ha b hb => ?_⟩
    obtain ⟨k, hk, rfl⟩ := List.mem_map.mp ha
    rw [List.mem_singleton.mp hb]
    exact (o.lo k hk).2
  · show 1 ≤ k.num ∧ k.num < M.next + 1
    rcases List.mem_append.mp hk with hk | hk
    · exact forgA_all (R := fun k => 1 ≤ k.num ∧ k.num < M.next + 1) (fun k hk => by have := o.lo k hk; omega) (fun k hs h => h) k hk
    · rw [List.mem_singleton.mp hk]
      have := o.nx
      show 1 ≤ M.next ∧ M.next < M.next + 1
      omega
theorem MOk.ckpt (o : MOk s h M) : MOk s h (ckM M) := by
  refine ⟨o.s1, o.s2, o.h2, o.nx, o.hd, o.cn, o.cr, o.cv, o.rn, o.rr, fun k hk => o.kp k (List.mem_of_mem_drop hk), ?_, ?_, fun k hk => o.lo k (List.mem_of_mem_drop hk)⟩
  · have h1 := o.sz
    rw [← List.take_append_drop (dropN M.kept) M.kept, sumSz_append] at h1
    show sumSz (M.kept.drop (dropN M.kept)) ≤ s
    omega
  · show ((M.kept.drop _).map (·.num)).Pairwise (· < ·)
    exact o.up.sublist ((List.drop_sublist _ _).map _)
theorem MOk.left (o : MOk s h M) : ∀ k ∈ M.kept, k.left.length ≤ 1000 ∧ ∀ x ∈ k.left, 0 ≤ x ∧ x < h ∧ x ∈ k.cs.map (·.1) := fun k hk => by
  have q := o.kp k hk
  refine ⟨?_, fun x hx => ?_⟩
  · have h1 := q.ll.length_le
    have h2 := q.po.ca.len32
    omega
  · have hm := q.ll.subset hx
    obtain ⟨c, hc, e⟩ := List.mem_map.mp hm
    exact ⟨q.po.ca.lo x hm, by rw [← e]; exact q.hi c hc, hm⟩
theorem MOk.new {num : Int} {slot : Nat} (h1 : 8 ≤ s) (h2 : s ≤ 64) (h3 : h ≤ 32) (hn : 1 ≤ num) (hs : slot < s) : MOk s h ⟨num, slot, [], [], []⟩ :=
  ⟨h1, h2, h3, hn, hs, List.nodup_nil, by simp, by simp, List.nodup_nil, by simp, by simp, Nat.zero_le _, List.Pairwise.nil, by simp⟩
end
end L27

open PySem L2 PyProof.Rows J

namespace L27
/-! ### commit -/
section
variable {P : Program} {w : World} {K : PySem.W.Frag} {mg : Str → Option Value} {base : Heap} {CDisk CLayout CJ CC CNS : Addr}
theorem r_eqRule {H : Hp} {Q : VK} {wo : Option Str} {r : Str} (hr : PyData.strOk r = true) (q : Q (.bl (decide (wo = some r))) H) : rEqA K (ruleV wo) (.str r) H Q := by
  cases wo with
  | some s =>
    refine r_eqS ?_
    have e : decide (some s = some r) = decide (s = r) := by simp
    rw [e] at q; exact q
  | none =>
    refine r_eqD (rule_dn (S := []) (H := H) Option.none).dp (Dn.str (S := []) r).dp rfl (Bool.and_eq_true_iff.mpr ⟨hr, rfl⟩) ?_
    have e : decide ((Option.none : Option Str) = some r) = false := by simp
    rw [e] at q; exact q
def spaceF (need free : Int) : List (Str × V) := [("free", .int free), ("needed", .int need), ("why", .str "space")]
def spCommit (CLayout CDisk CNS : Addr) (K : PySem.W.Frag) (CJ CC : Addr) : Sp := fun vs H Q E => ∃ (j L d : Addr) (wo : Option Str) (M : JM) (fj fd : List Addr) (s h m : Nat) (D : DM), vs = [.ref j] ∧ JAt K CJ CC H j L d wo M fj ∧ LayAt CLayout H L s h ∧ L ∉ fj ∧ L ∉ fd ∧ DiskAt K CDisk H d fd (1 + s + h) m D ∧ Dj fj fd ∧
  m ≤ 900000 ∧ MOk s h M ∧ (cmNone M = true → ∀ H', Same H H' → Q .non H') ∧
  (cmNone M = false → s < (cmRecs wo M).length + sumSz M.kept → ∀ dd H', H dd = none → Same H H' → H' dd = some (.xd (spaceF (cmRecs wo M).length ((s : Int) - sumSz M.kept))) → E (.ref CNS) (some dd) H') ∧
  (cmNone M = false → (cmRecs wo M).length + sumSz M.kept ≤ s → ∀ fj' m' H', But (fj ++ fd) H H' → (∀ x ∈ fj', x ∈ fj ∨ H x = none) → m' ≤ m + 1003 → DiskAt K CDisk H' d fd (1 + s + h) m' (cmD wo s M D) → JAt K CJ CC H' j L d wo (cmM wo s M) fj' → Q (.int M.next) H')
abbrev s_Journal_commit : Stmt := inClass (top 34) 9
abbrev N_Journal_commit : List Str := ["self", "copies", "freed", "revokes", "records", "at", "record"]
theorem sc_Journal_commit : FnScope N_Journal_commit ["self"] (defScope s_Journal_commit) :=
  ⟨rfl, rfl, rfl, by decide +kernel, rfl, by decide +kernel, by decide +kernel⟩

theorem ok_Journal_commit {f : Addr} {fd : FuncData} (F : Fun K "commit" "Journal.commit" s_Journal_commit f fd) (B : Bl mg) (T : TJn K CJ)
    (M_Journal_running : MetW P w K mg base 1 CJ "running" (spJRun K CJ CC) []) (C_needed : ClW P w K mg base 2 "needed" (spNeed K CJ CC)) (C_records_of : ClW P w K mg base 13 "records_of" (spRecsOf K))
    (M_Journal_free_slots : MetW P w K mg base 2 CJ "free_slots" (spJFree CLayout K CJ CC fun s M => (s : Int) - sumSz M.kept) []) (X_NoSpace : Oex P w K mg base 2 "NoSpace" CNS (spX K ["why", "needed", "free"] foSpace)) (XN : ∀ n ∈ (["why", "needed", "free"] : List Str), PySem.W.findIn K (.ref CNS) n = some none)
    (M_Journal_flush_by : MetW P w K mg base 2 CJ "flush_by" (spJFlush K CDisk CJ CC) []) (M_Disk_write : MetW P w K mg base 12 CDisk "write" (spWrite K CDisk) []) (M_Layout_slot_block : MetW P w K mg base 3 CLayout "slot_block" (spSlotBlock CLayout) [])
    (M_Layout_slots : MetW P w K mg base 1 CLayout "slots" (spLayI CLayout fun s _ => s) []) (N_Committed : MakW P w K mg base 1 "Committed" CC (spKpInit K CC) []) (M_Journal_keep : MetW P w K mg base 2 CJ "keep" (spKeep CLayout K CJ CC) []) :
    FnOk P w K mg base (L2N.CX P w) 14 f fd ["self"] (spCommit CLayout CDisk CNS K CJ CC) := by
  refine okN F sc_Journal_commit (fun vs H Q E h => ?_) (fun cdv A outer s H vs Q E hr h => ?_)
  · obtain ⟨_, _, _, _, _, _, _, _, _, _, _, rfl, _⟩ := h
    rfl
  · obtain ⟨j, L, d, wo, M, fj, fd, sl, ho, m, D, rfl, hJ, hL, hLj, hLf, hD, hdj, hm, ok, kn, ke, k⟩ := h
    have hu := hu_of hr
    have nd := sc_Journal_commit.nd
    have hcl := ok.cl
    have hrl := ok.rl
    have hkl := ok.kl
    have hs1 := ok.s1
    have hs2 := ok.s2
    obtain ⟨hrc1, hrc2⟩ := ok.recl wo
    obtain ⟨lk, dc, dr, cks, efj, jin⟩ := id hJ
    obtain ⟨dx, h0⟩ := jin.h0
    obtain ⟨tc, n1, n2, n3, n4, n5, n6, n7, n8⟩ := T
    refine ⟨_, (pss_cons (ps_asg (pe_mtW0 M_Journal_running (.inl rfl) (L2H.roomH_of hr) (by decide) (pv 0)) (pg_tplW (K := K) (n := 2) (.inl rfl) (pgs_cons (pg_name (i := 1) nd rfl (by first | exact Or.inl rfl | exact Or.inr rfl)) (pgs_cons (pg_name (i := 2) nd rfl (by first | exact Or.inl rfl | exact Or.inr rfl)) pgs_nil))))
      (pss_cons (ps_if (PW.pt (pw_and (pt_not (pt_tru (K := K) (pv 1))) (pw_and1 (pt_not (pt_tru (K := K) (pv 2)))))) (pss_one (ps_ret pe_non)) pss_nil)
      (pss_cons (ps_set (i := 3) nd rfl (by first | exact Or.inl rfl | exact Or.inr rfl) (pe_ifExp (pt_cmpR (op_eqA (K := K) hr.units) (pe_fldA (K := K) (pv 0)) pe_str (nomark _)) (pe_lst pa_nil) (pe_clW C_needed (.inl rfl) (L2H.roomH_of hr) (by decide) (pa_cons (pv 0) pa_nil))))
      (pss_cons (ps_set (i := 4) nd rfl (by first | exact Or.inl rfl | exact Or.inr rfl) (pe_clW C_records_of (.inl rfl) (L2H.roomH_of hr) (by decide) (pa_cons (pe_fldA (K := K) (pv 0)) (pa_cons (pv 1) (pa_cons (pv 3) pa_nil)))))
      (pss_cons (ps_if (pt_cmpR op_gt (pe_callB (call_lenA (K := K)) rfl B.len PySem.boot_len (pa_cons (pv 4) pa_nil)) (pe_mtW0 M_Journal_free_slots (.inl rfl) (L2H.roomH_of hr) (by decide) (pv 0)) (nomark _)) (pss_one (L2N.ps_raise rfl (L2N.takes_of rfl rfl rfl rfl) (pmk_xN X_NoSpace hr (by decide) (pa_cons (pe_callB (call_lenA (K := K)) rfl B.len PySem.boot_len (pa_cons (pv 4) pa_nil)) (pa_cons (pe_mtW0 M_Journal_free_slots (.inl rfl) (L2H.roomH_of hr) (by decide) (pv 0)) pa_nil))))) pss_nil)
      (pss_cons (ps_forW (passes_of rfl) (.inl rfl) (pi_enumW (K := K) rfl B.enumerate (pa_cons (pv 4) pa_nil)) (pg_tplW (K := K) (n := 2) (.inl rfl) (pgs_cons (pg_name (i := 5) nd rfl (by first | exact Or.inl rfl | exact Or.inr rfl)) (pgs_cons (pg_name (i := 6) nd rfl (by first | exact Or.inl rfl | exact Or.inr rfl)) pgs_nil)))
      (pss_cons (ps_if (pt_cmpR (op_eqA (K := K) hr.units) (pv 5) (pe_op op_sub (pe_callB (call_lenA (K := K)) rfl B.len PySem.boot_len (pa_cons (pv 4) pa_nil)) pe_int) (nomark _)) (pss_one (ps_expr (pe_mtW M_Journal_flush_by (.inl rfl) (L2H.roomH_of hr) (by decide) (pv 0) (pa_cons pe_str pa_nil)))) pss_nil)
      (pss_one (ps_expr (pe_mtW M_Disk_write (.inl rfl) (L2H.roomH_of hr) (by decide) (pe_fldA (K := K) (pv 0)) (pa_cons (pe_mtW M_Layout_slot_block (.inl rfl) (L2H.roomH_of hr) (by decide) (pe_fldA (K := K) (pv 0)) (pa_cons (pe_op op_mod (pe_op (op_addA (K := K)) (pe_fldA (K := K) (pv 0)) (pv 5)) (pe_mtW0 M_Layout_slots (.inl rfl) (L2H.roomH_of hr) (by decide) (pe_fldA (K := K) (pv 0)))) pa_nil)) (pa_cons (pv 6) pa_nil)))))))
      (pss_cons (ps_expr (pe_mtW M_Journal_flush_by (.inl rfl) (L2H.roomH_of hr) (by decide) (pv 0) (pa_cons pe_str pa_nil)))
      (pss_one (ps_ret (pe_mtW M_Journal_keep (.inl rfl) (L2H.roomH_of hr) (by decide) (pv 0) (pa_cons (pe_mkW N_Committed (.inl rfl) (L2H.roomH_of hr) (by decide) (pa_cons (pe_fldA (K := K) (pv 0)) (pa_cons (pe_callB (call_lenA (K := K)) rfl B.len PySem.boot_len (pa_cons (pv 4) pa_nil)) (pa_cons (pv 1) (pa_cons (pv 3) pa_nil))))) (pa_cons (pv 2) pa_nil)))))))))))), ?_⟩
    repeat walk_at "s"
    refine r_methAt h0 (by with_unfolding_all rfl) ?_
    repeat walk_at "s"
    refine ⟨j, L, d, wo, M, _, rfl, hJ, by omega, by omega, fun t a b xs H1 s1 ht ha hb ha1 hxs hb1 => ?_⟩
    have hxl : xs.length = M.cop.length := by rw [hxs.length, List.length_map, sortC_len]
    walk_at "to"
    have enone : cmNone M = (xs.isEmpty && ((sortI M.rev).map V.int).isEmpty) := by
      have h1 : M.cop.isEmpty = xs.isEmpty := by cases xs <;> cases hc : M.cop <;> simp_all
      have h2 : M.rev.isEmpty = ((sortI M.rev).map V.int).isEmpty := by
        have h3 := sortI_len M.rev
        cases hc : M.rev <;> cases hd : sortI M.rev <;> simp_all
      unfold cmNone
      rw [h1, h2]
    with_reducible refine r_seqCut (fun σ' H' => cmNone M = false ∧ σ' = [some (.ref j), some (.ref a), some (.ref b), none, none, none, none] ∧ H' = H1) ?_ ?_
    rotate_left
    · intro cut
      repeat walk_at "s"
      refine ⟨_, .inl ⟨_, .of ha1, rfl⟩, ?_⟩
      cases xs with
      | cons x0 xs0 =>
        refine r_iteF rfl ?_
        refine r_iteF rfl ?_
        exact cut _ _ ⟨by rw [enone]; rfl, rfl, rfl⟩
      | nil =>
        refine r_iteT rfl ?_
        repeat walk_at "s"
        refine ⟨_, .inl ⟨_, .of hb1, rfl⟩, ?_⟩
        generalize (sortI M.rev).map V.int = ys at enone
        cases ys with
        | cons y0 ys0 =>
          refine r_iteF rfl ?_
          exact cut _ _ ⟨by rw [enone]; rfl, rfl, rfl⟩
        | nil =>
          refine r_iteT rfl ?_
          repeat walk_at "s"
          exact kn (by rw [enone]; rfl) H1 s1
    rintro σ' H' ⟨hne, rfl, eH⟩
    subst eH
    with_reducible refine r_seqCut (fun σ' H' => ∃ rl, σ' = [some (.ref j), some (.ref a), some (.ref b), some (.ref rl), none, none, none] ∧ Same H H' ∧ H rl = none ∧ H' rl = some (.lst ((cmRev wo M).map V.int)) ∧ H' a = some (.lst xs) ∧ H' b = some (.lst ((sortI M.rev).map V.int)) ∧ DnAll K [] H' xs ((sortC M.cop).map dWr) ∧ rl ≠ a ∧ rl ≠ b) ?_ ?_
    rotate_left
    · intro cut
      repeat walk_at "s"
      refine r_eqRule (by decide +kernel) ?_
      repeat walk_at "s"
      refine r_ite (fun hw => ?_) (fun hw => ?_)
      · repeat walk_at "s"
        refine r_newL (sz (Nat.le_of_ble_eq_true rfl)) (fun rl H2 hrl s2 hrl2 => ?_)
        refine cut _ _ ⟨rl, rfl, fun b o e => s2 b o (s1 b o e), (But.of_same (S := []) s1).free hrl, ?_, s2 _ _ ha1, s2 _ _ hb1, hxs.same s2, fun z => live_of ha1 (z ▸ hrl), fun z => live_of hb1 (z ▸ hrl)⟩
        unfold cmRev
        rw [if_pos hw]; exact hrl2
      · repeat walk_at "s"
        refine ⟨j, L, d, wo, M, fj, rfl, hJ.same s1, by omega, by omega, by omega, fun rl H2 s2 hrl hrl2 => ?_⟩
        refine cut _ _ ⟨rl, rfl, fun b o e => s2 b o (s1 b o e), (But.of_same (S := []) s1).free hrl, ?_, s2 _ _ ha1, s2 _ _ hb1, hxs.same s2, fun z => live_of ha1 (z ▸ hrl), fun z => live_of hb1 (z ▸ hrl)⟩
        unfold cmRev
        rw [if_neg hw]; exact hrl2
    rintro σ' H2 ⟨rl, rfl, s2, hrl0, hrl2, ha2, hb2, hxs2, na, nb⟩
    have h02 := s2 _ _ h0
    have po := ok.parts wo
    have hnx := ok.nx
    clear s1 ha1 hb1 hxs ht
    repeat walk_at "s"
    refine ⟨M.next, a, rl, xs, _, _, rfl, hnx, ha2, hxs2, hrl2, po, fun rc ys H3 hrc s3 hrc3 hys => ?_⟩
    have s03 : Same H H3 := fun b o e => s3 b o (s2 b o e)
    have hrc0 : H rc = none := (But.of_same (S := []) s2).free hrc
    have h03 := s03 _ _ h0
    have hyl : ys.length = (cmRecs wo M).length := by rw [hys.length, List.length_map]; rfl
    have hJ3 := hJ.same s03
    have hL3 := hL.same s03
    have hD3 := hD.same s03
    have ha3 := s3 _ _ ha2
    have hb3 := s3 _ _ hb2
    have hrl3 := s3 _ _ hrl2
    have hxs3 := hxs2.same s3
    clear s3 s2 h02 ha2 hb2 hrl2 hxs2
    repeat walk_at "s"
    have lv3 : ∀ {H' : Hp}, Same H3 H' → Same H H' := fun s b o e => s b o (s03 b o e)
    refine r_methAt h03 (by with_unfolding_all rfl) ?_
    repeat walk_at "s"
    refine ⟨j, L, d, wo, M, fj, sl, ho, rfl, hJ3, hL3, by omega, fun H4 s4 => ?_⟩
    dsimp only
    rw [hyl]
    have h04 := s4 _ _ h03
    have hrc4 := s4 _ _ hrc3
    repeat walk_at "s"
    refine r_ite (fun hlt => ?_) (fun hlt => ?_)
    · repeat walk_at "s"
      refine r_methAt h04 (by with_unfolding_all rfl) ?_
      repeat walk_at "s"
      refine ⟨j, L, d, wo, M, fj, sl, ho, rfl, hJ3.same s4, hL3.same s4, by omega, fun H5 s5 => ?_⟩
      dsimp only
      rw [hyl]
      repeat walk_at "s"
      obtain ⟨_, _, _, _, oT, _⟩ := X_NoSpace.ex
      refine r_mkX ⟨Nat.le_of_ble_eq_true rfl, _, rfl, oT, XN, fun dd H6 hdd s6 hdd6 => ?_⟩
      have s06 : Same H H6 := lv3 fun b o e => s6 b o (s5 b o (s4 b o e))
      have fdd : H dd = none := (But.of_same (S := []) (lv3 fun b o e => s5 b o (s4 b o e))).free hdd
      exact ke hne (by omega) dd H6 fdd s06 hdd6
    have hJ4 := hJ3.same s4
    have hL4 := hL3.same s4
    have hD4 := hD3.same s4
    have ha4 := s4 _ _ ha3
    have hb4 := s4 _ _ hb3
    have hrl4 := s4 _ _ hrl3
    have hxs4 := hxs3.same s4
    have hys4 := hys.same s4
    have s04 : Same H H4 := lv3 s4
    clear s4 h03 hrc3 hJ3 hL3 hD3 ha3 hb3 hrl3 hxs3 lv3 s03 hys
    have jF : j ∉ fd := hdj j (by rw [efj]; simp [jAll])
    have nF : ∀ {x : Addr}, H x = none → x ∉ fd := fun hx z => hD.live _ z hx
    have hD0 := hD4
    have eRc : recs (sortC M.cop) (cmRev wo M) = cmRecs wo M := rfl
    rw [eRc] at hys4
    have nlR : noLs ((cmRecs wo M).map (rcD M.next)) = true := noLs_map fun rc hrc => blockB_nol (parts_blk po hrc)
    repeat walk_at "s"
    refine forE (.of hrc4) (fun i σ H' => ∃ o5 o6, σ = [some (.ref j), some (.ref a), some (.ref b), some (.ref rl), some (.ref rc), o5, o6] ∧ But fd H4 H' ∧ DiskAt K CDisk H' d fd (1 + sl + ho) (m + 2 * i) (wrA wo sl M.head M.next (cmRecs wo M) i D))
      ⟨_, _, rfl, .refl, hD4⟩ ?_ ?_ ?_
    · rintro i σ H5 hi ⟨o5, o6, rfl, b5, hD5⟩
      exact .of (b5.at hrc4 (nF hrc0))
    · rintro i y σ H5 hi ⟨o5, o6, rfl, b5, hD5⟩ TT H6 hTT s6 hTT6
      obtain ⟨dd, hdd, hdn⟩ := hys4.get hi
      obtain ⟨rc', hrc', rfl⟩ := map_getG hdd
      have hil := (List.getElem?_eq_some_iff.mp hrc').1
      have hblk := parts_blk (num := M.next) po (List.mem_of_getElem? hrc')
      have b46 : But fd H4 H6 := b5.trans (But.of_same s6)
      have hD6 := hD5.same s6
      clear b5 hD5 s6
      have h06 := b46.at h04 jF
      have hrc6 := b46.at hrc4 (nF hrc0)
      walk_at "to"
      with_reducible refine r_seqCut (fun σ' H' => σ' = [some (.ref j), some (.ref a), some (.ref b), some (.ref rl), some (.ref rc), some (.int (i : Nat)), some y] ∧ But fd H4 H' ∧ DiskAt K CDisk H' d fd (1 + sl + ho) (m + 2 * i + 1) (if i + 1 = (cmRecs wo M).length then flD wo "commit" (wrA wo sl M.head M.next (cmRecs wo M) i D) else wrA wo sl M.head M.next (cmRecs wo M) i D)) ?_ ?_
      rotate_left
      · intro cut
        repeat walk_at "s"
        refine r_ite (fun hl => ?_) (fun hl => ?_)
        · repeat walk_at "s"
          refine r_methAt h06 (by with_unfolding_all rfl) ?_
          repeat walk_at "s"
          refine ⟨j, L, d, wo, M, fj, fd, _, _, _, "commit", rfl, hJ4.but b46 hdj, hD6, by omega, by decide +kernel, fun H7 b7 hD7 => ?_⟩
          refine cut _ _ ⟨rfl, b46.trans b7, ?_⟩
          rw [if_pos (by omega)]; exact hD7
        · refine cut _ _ ⟨rfl, b46, ?_⟩
          rw [if_neg (by omega)]; exact hD6.mono (by omega)
      rintro σ' H7 ⟨rfl, b47, hD7⟩
      have h07 := b47.at h04 jF
      have hL7 := hL4.but b47 hLf
      obtain ⟨dl, hLx⟩ := hL7.ex
      obtain ⟨dxd, l1, l2, l3, l4, x1, x2, x3, x4, efd, hnd, q0, _⟩ := id hD7.ex
      clear b46 hD6 h06 hrc6
      repeat walk_at "s"
      refine r_methAt q0 (by with_unfolding_all rfl) ?_
      repeat walk_at "s"
      refine r_methAt hLx (by with_unfolding_all rfl) ?_
      repeat walk_at "s"
      refine r_methAt hLx (by with_unfolding_all rfl) ?_
      repeat walk_at "s"
      refine ⟨L, sl, ho, rfl, hL7, ?_⟩
      dsimp only
      repeat walk_at "s"
      refine ⟨L, sl, ho, _, rfl, hL7, Int.emod_nonneg _ (by omega), Int.emod_lt_of_pos _ (by omega), ?_⟩
      repeat walk_at "s"
      have eslot : ((M.head : Int) + (i : Int)) % (sl : Int) = (((M.head + i) % sl : Nat) : Int) := by rw [Int.natCast_emod, Int.natCast_add]
      rw [eslot]
      have hslt : (M.head + i) % sl < sl := Nat.mod_lt _ (by omega)
      have hdn7 : Dn K [] H7 y (rcD M.next rc') := hdn.nlb (blockB_nol hblk) b47
      refine ⟨d, fd, _, _, _, _, y, [], rcD M.next rc', rfl, hD7, by omega, by omega, by omega, hdn7, hblk, fun H8 b8 hD8 => ?_⟩
      refine ⟨_, _, rfl, b47.trans b8, ?_⟩
      have est : wrA wo sl M.head M.next (cmRecs wo M) (i + 1) D = wrF wo sl M.head (cmRecs wo M).length M.next (wrA wo sl M.head M.next (cmRecs wo M) i D) (rc', i) :=
        foldl_takeG (by rw [List.getElem?_zipIdx, hrc']; simp)
      rw [est]
      exact hD8
    rintro σ H5 ⟨o5, o6, rfl, b5, hD5⟩
    rw [hyl] at hD5
    have h05 := b5.at h04 jF
    have hJ5 := hJ4.but b5 hdj
    repeat walk_at "s"
    refine r_methAt h05 (by with_unfolding_all rfl) ?_
    repeat walk_at "s"
    refine ⟨j, L, d, wo, M, fj, fd, _, _, _, "settle", rfl, hJ5, hD5, by omega, by decide +kernel, fun H6 b6 hD6 => ?_⟩
    have b46 : But fd H4 H6 := b5.trans b6
    have h06 := b46.at h04 jF
    have hJ6 := hJ4.but b46 hdj
    have hL6 := hL4.but b46 hLf
    have fa : H a = none := ha
    have fb : H b = none := hb
    have ha6 := b46.at ha4 (nF fa)
    have hb6 := b46.at hb4 (nF fb)
    have hrl6 := b46.at hrl4 (nF hrl0)
    have hrc6 := b46.at hrc4 (nF hrc0)
    have nlC : noLs ((sortC M.cop).map dWr) = true := noLs_map fun c hc => nol_dWr (po.nolc c hc)
    have hxs6 : DnAll K [] H6 xs ((sortC M.cop).map dWr) := hxs4.nlb nlC b46
    have B6 : BtW fd H H6 := ⟨(But.of_same s04).trans b46⟩
    clear b5 b6 hD5 b46 hJ5 h05 hJ4 hL4 hD4 hD0 s04 h04 ha4 hb4 hrl4 hrc4 hxs4 hys4 h0
    repeat walk_at "s"
    refine r_methAt h06 (by with_unfolding_all rfl) ?_
    repeat walk_at "s"
    rw [hyl]
    refine r_makeAt (fun c dxc H7 hc s7 hc7 => ?_)
    refine ⟨c, dxc, a, rl, M.next, (cmRecs wo M).length, xs, sortC M.cop, cmRev wo M, rfl, hc7, s7 _ _ ha6, hxs6.same s7, s7 _ _ hrl6, po, fun dcc lrc llc H8 b8 fr8 nd8 hkp8 => ⟨rfl, ?_⟩⟩
    have s68 : Same H6 H8 := (bt_but (But.of_same s7) b8 (bc_fr hc bc_nil) : But [] H6 H8).same
    have f6 : ∀ x ∈ [c, dcc, lrc, llc], H6 x = none := fun x hx => by
      rcases List.mem_cons.mp hx with rfl | hx
      · exact hc
      · exact (But.of_same (S := []) s7).free (fr8 x hx)
    have hJ8 := hJ6.same s68
    have hL8 := hL6.same s68
    have hD8 := hD6.same s68
    have hb8 := s68 _ _ hb6
    clear h06 b8 s7 hc7
    repeat walk_at "s"
    have hll : ((sortC M.cop).map (·.1)).length ≤ 400 := by rw [List.length_map, sortC_len]; omega
    refine ⟨j, L, d, b, wo, M, fj, sl, ho, ⟨c, dcc, lrc, llc⟩, cmKp wo M, sortI M.rev, rfl, hJ8, hL8, hLj, hkp8, nd8, fun x hx z => hJ6.live x z (f6 x hx), hb8, hll, by rw [sortI_len]; omega, by omega, fun k' hk' => (ok.left k' hk').1, fun fj' H9 b9 hin hJ9 => ?_⟩
    refine k hne (by omega) fj' (m + 2 * (cmRecs wo M).length + 1) H9 ?_ (fun x hx => ?_) (by omega) (hD8.but b9 fun x hx z => hdj x z hx) hJ9
    · exact ((B6.b.sub fun z hz => List.mem_append_right _ hz).trans (But.of_same s68)).trans (b9.sub fun z hz => List.mem_append_left _ hz)
    · rcases hin x hx with h | h | h
      · exact .inl h
      · exact .inr (B6.b.free (f6 x h))
      · exact .inr (B6.b.free ((But.of_same (S := []) s68).free h))
end
end L27

open PySem L2 PyProof.Rows J

namespace L27
section
variable {P : Program} {w : World} {K : PySem.W.Frag} {mg : Str → Option Value} {base : Heap} {CDisk CLayout : Addr}
/-! ### a new disk of a layout; pending -/
abbrev s_Disk_pending : Stmt := inClass (top 15) 6
abbrev N_Disk_pending : List Str := ["self"]
theorem sc_Disk_pending : FnScope N_Disk_pending ["self"] (defScope s_Disk_pending) :=
  ⟨rfl, rfl, rfl, by decide +kernel, rfl, by decide +kernel, by decide +kernel⟩

theorem ok_Disk_pending {f : Addr} {fd : FuncData} (F : Fun K "pending" "Disk.pending" s_Disk_pending f fd) (B : Bl mg) (T : TDisk K CDisk) :
    FnW P w K mg base 1 f fd ["self"] (spCopyOf K CDisk fun D => D.writes.map dWr) := by
  refine okW F sc_Disk_pending (fun vs H Q E h => ?_) (fun cdv A outer s H vs Q E cc pn hw hr h => ?_)
  · obtain ⟨_, _, _, _, _, rfl, _⟩ := h
    rfl
  · obtain ⟨d, fd, n, m, D, rfl, ⟨ok, dx, l1, l2, l3, l4, x1, x2, x3, x4, rfl, hnd, h0, h1, h2, h3, h4, v1, v2, v3, v4⟩, k⟩ := h
    have nd := sc_Disk_pending.nd
    obtain ⟨cl, n1, n2, n3, n4⟩ := T
    refine ⟨_, (pss_one (ps_ret (pe_callTy (call_listA (K := K)) rfl B.list (by decide +kernel) (pa_cons (pe_fldA (K := K) (pv 0)) pa_nil)))), ?_⟩
    repeat walk_at "s"
    refine r_listL (.of h3) (fun l H1 hl s1 hl1 => ?_)
    exact k l x3 H1 hl s1 hl1 (v3.same s1)
abbrev s_Layout_disk_size : Stmt := inClass (top 22) 3
abbrev N_Layout_disk_size : List Str := ["self"]
theorem sc_Layout_disk_size : FnScope N_Layout_disk_size ["self"] (defScope s_Layout_disk_size) :=
  ⟨rfl, rfl, rfl, by decide +kernel, rfl, by decide +kernel, by decide +kernel⟩

theorem ok_Layout_disk_size {f : Addr} {fd : FuncData} (F : Fun K "disk_size" "Layout.disk_size" s_Layout_disk_size f fd) (T : TLay K CLayout) :
    FnW P w K mg base 1 f fd ["self"] (spLayI CLayout fun s h => 1 + s + h) := by
  refine okW F sc_Layout_disk_size (fun vs H Q E h => ?_) (fun cdv A outer s H vs Q E cc pn hw hr h => ?_)
  · obtain ⟨_, _, _, rfl, _⟩ := h
    rfl
  · obtain ⟨L, sl, ho, rfl, ⟨h1, h2, h3, h4, dx, hL⟩, k⟩ := h
    have nd := sc_Layout_disk_size.nd
    obtain ⟨cl, n1, n2⟩ := T
    refine ⟨_, (pss_one (ps_ret (pe_op (op_addA (K := K)) (pe_op (op_addA (K := K)) pe_int (pe_fldA (K := K) (pv 0))) (pe_fldA (K := K) (pv 0))))), ?_⟩
    repeat walk_at "s"
    have e : ((1 + sl + ho : Nat) : Int) = 1 + (sl : Int) + (ho : Int) := by omega
    dsimp only at k
    rw [e] at k
    exact k
/-- the disk that new_disk makes -/
def ndD (s h : Nat) : DM := ((DM.new (1 + s + h)).write 0 (hdD 1 0)).flush
theorem hdD_blk (num : Int) (slot : Nat) : blockB (hdD num slot) = true := by
  unfold blockB hdD
  have e3 : (PyData.tuple [.str "tail", .int num, .int slot]).canLay0 = (PyData.strOk "tail" && true) := rfl
  rw [e3, show PyData.strOk "tail" = true by decide +kernel]; rfl
end
end L27

open PySem L2 PyProof.Rows J
local macro_rules | `(tactic| walk_at "mv") => `(tactic| with_reducible first
  | exact (J.mv_slots ..) | exact (J.mv_homes ..) | exact (J.mv_next ..) | exact (J.mv_head ..) | exact (J.mv_kept ..) | exact (J.mv_copies ..) | exact (J.mv_revokes ..) | exact (J.mv_rule ..) | exact (J.mv_disk ..) | exact (J.mv_events ..)
  | exact (J.kv_number ..) | exact (J.kv_size ..) | exact (J.kv_copies ..) | exact (J.kv_revokes ..) | exact (J.kv_slot ..) | exact (J.kv_left ..))
local macro_rules | `(tactic| walk_at "s") => `(tactic| first
  | with_reducible refine J.r_pcons ?_
  | with_reducible refine J.r_pnil ?_
  | ((with_reducible apply J.r_dAtS); (walk_at "hp"); (walk_at "mv")))

namespace L27
/-! ### value, kept -/
def valJ (s : Nat) (M : JM) (D : DM) (home : Int) : PyData := match getD' M.cop home with
  | some d => d
  | none => match M.kept.reverse.find? (fun k => decide (home ∈ k.left)) with
    | some k => (getD' k.cs home).getD .none
    | none => D.read (1 + (s : Int) + home)
def keptD (M : JM) : List PyData := M.kept.map fun k => .tuple [.int k.num, .list (k.left.map .int)]
theorem rev_get {α : Type} {l : List α} {i : Nat} (h : i < l.length) : l.reverse[i]? = l[l.length - 1 - i]? := List.getElem?_reverse h
theorem find_take {α : Type} {p : α → Bool} {l : List α} {i : Nat} {x : α} (h : ∀ y ∈ l.take i, p y = false) (hx : l[i]? = some x) (hp : p x = true) : l.find? p = some x := by
  induction l generalizing i with
  | nil => cases hx
  | cons y l ih =>
    cases i with
    | zero =>
      cases hx
      rw [List.find?_cons, hp]
    | succ i =>
      have h0 := h y (by rw [List.take_succ_cons]; exact List.mem_cons_self)
      rw [List.find?_cons, h0]
      exact ih (fun z hz => h z (by rw [List.take_succ_cons]; exact List.mem_cons_of_mem _ hz)) hx
theorem find_none' {α : Type} {p : α → Bool} {l : List α} (h : ∀ y ∈ l, p y = false) : l.find? p = none := List.find?_eq_none.mpr fun y hy => by rw [h y hy]; exact Bool.false_ne_true
section
variable {P : Program} {w : World} {K : PySem.W.Frag} {mg : Str → Option Value} {base : Heap} {CDisk CLayout CJ CC CNS : Addr}
def spJVal (CDisk CLayout : Addr) (K : PySem.W.Frag) (CJ CC : Addr) : Sp := fun vs H Q _ => ∃ (j L d : Addr) (wo : Option Str) (M : JM) (fj fd : List Addr) (s h m : Nat) (D : DM) (home : Int), vs = [.ref j, .int home] ∧ JAt K CJ CC H j L d wo M fj ∧ LayAt CLayout H L s h ∧ DiskAt K CDisk H d fd (1 + s + h) m D ∧
  MOk s h M ∧ 0 ≤ home ∧ home < h ∧ ∀ v, Dn K [] H v (valJ s M D home) → Q v H
abbrev s_Journal_value : Stmt := inClass (top 34) 4
abbrev N_Journal_value : List Str := ["self", "home", "block", "one"]
theorem sc_Journal_value : FnScope N_Journal_value ["self", "home"] (defScope s_Journal_value) :=
  ⟨rfl, rfl, rfl, by decide +kernel, rfl, by decide +kernel, by decide +kernel⟩

theorem ok_Journal_value {f : Addr} {fd : FuncData} (F : Fun K "value" "Journal.value" s_Journal_value f fd) (B : Bl mg) (T : TJn K CJ) (TK : TKp K CC) (M_Layout_home_block : MetW P w K mg base 3 CLayout "home_block" (spHomeBlock CLayout) []) (M_Disk_read : MetW P w K mg base 4 CDisk "read" (spRead K CDisk) []) :
    FnW P w K mg base 5 f fd ["self", "home"] (spJVal CDisk CLayout K CJ CC) := by
  refine okW F sc_Journal_value (fun vs H Q E h => ?_) (fun cdv A outer s H vs Q E cc pn hw hr h => ?_)
  · obtain ⟨_, _, _, _, _, _, _, _, _, _, _, _, rfl, _⟩ := h
    rfl
  · obtain ⟨j, L, d, wo, M, fj, fd, sl, ho, m, D, home, rfl, ⟨lk, dc, dr, cks, rfl, hJ⟩, hL, hD, ok, hh0, hh1, k⟩ := h
    obtain ⟨jnd, ⟨dx, h0⟩, h1, ⟨kc, h2, h2'⟩, ⟨kr, h3, h3'⟩, kl, kk, cv⟩ := id hJ
    have hu := hu_of hr
    have nd := sc_Journal_value.nd
    obtain ⟨cl, n1, n2, n3, n4, n5, n6, n7, n8⟩ := T
    obtain ⟨tc, m1, m2, m3, m4, m5⟩ := TK
    obtain ⟨dl, hLx⟩ := hL.ex
    obtain ⟨dxd, l1, l2, l3, l4, x1, x2, x3, x4, efd, hnd, g0, _⟩ := id hD.ex
    refine ⟨_, (pss_cons (ps_set (i := 2) nd rfl (by first | exact Or.inl rfl | exact Or.inr rfl) (pe_mtW M_Layout_home_block hw hr (by decide) (pe_fldA (K := K) (pv 0)) (pa_cons (pv 1) pa_nil)))
      (pss_cons (ps_if (pt_cmp (pc_din hu (pv 1) (pe_fldA (K := K) (pv 0))) rfl) (pss_one (ps_ret (pe_dget hu (pe_fldA (K := K) (pv 0)) (pv 1) (fun _ _ => rfl)))) pss_nil)
      (pss_cons (ps_forW PassesOwn.never hw (pi_reversedW (K := K) rfl B.reversed (pa_cons (pe_fldA (K := K) (pv 0)) pa_nil)) (pg_name (i := 3) nd rfl (by first | exact Or.inl rfl | exact Or.inr rfl))
      (pss_one (ps_if (pt_cmpR (op_inA (K := K) (unitsW hr)) (pv 1) (pe_fldA (K := K) (pv 3)) (by rfl)) (pss_one (ps_ret (pe_dget hu (pe_fldA (K := K) (pv 3)) (pv 1) (fun _ _ => rfl)))) pss_nil)))
      (pss_one (ps_ret (pe_mtW M_Disk_read hw hr (by decide) (pe_fldA (K := K) (pv 0)) (pa_cons (pv 2) pa_nil))))))), ?_⟩
    repeat walk_at "s"
    refine r_methAt hLx (by with_unfolding_all rfl) ?_
    repeat walk_at "s"
    refine ⟨L, sl, ho, home, rfl, hL, hh0, hh1, ?_⟩
    repeat walk_at "s"
    obtain ⟨o, hoo, eo⟩ := dinO (k := home) h2 h2'
    refine ⟨dc, o, rfl, hoo, ?_⟩
    rw [eo]
    repeat walk_at "s"
    cases hg : getD' M.cop home with
    | some dv =>
      obtain ⟨v, hv, hvd⟩ := h2'.some hg
      refine r_iteT (by rw [hasD_get, hg]; rfl) ?_
      repeat walk_at "s"
      refine r_dAt h2 hv ?_
      repeat walk_at "s"
      refine k v ?_
      unfold valJ
      rw [hg]; exact hvd
    | none =>
      refine r_iteF (by rw [hasD_get, hg]; rfl) ?_
      repeat walk_at "s"
      refine r_forV ?_
      repeat walk_at "s"
      refine forV (.of h1) (fun i σ H' => ∃ o3, σ = [some (.ref j), some (.int home), some (.int (1 + sl + home)), o3] ∧ H' = H ∧ ∀ k ∈ M.kept.reverse.take i, decide (home ∈ k.left) = false) ⟨_, rfl, rfl, by simp⟩ ?_ ?_ ?_
      · rintro i σ H' hi ⟨o3, rfl, rfl, hall⟩
        exact .of h1
      · rintro i x σ H' hx hi ⟨o3, rfl, rfl, hall⟩
        rw [List.length_map] at hx hi
        obtain ⟨a, ha, rfl⟩ := map_getG hx
        obtain ⟨kp, hkp⟩ : ∃ kp, M.kept[cks.length - 1 - i]? = some kp := ⟨_, List.getElem?_eq_getElem (by omega)⟩
        obtain ⟨dxc, kvs, u0, u1, u2, u3, u4, u5⟩ := kk _ a kp ha hkp
        have hrev : M.kept.reverse[i]? = some kp := by rw [rev_get (by omega), ← kl]; exact hkp
        repeat walk_at "s"
        refine r_inL (.of u4) ?_
        repeat walk_at "s"
        refine r_ite (fun hb => ?_) (fun hb => ?_)
        · have hm := ((ok.left kp (List.mem_of_getElem? hkp)).2 home hb).2.2
          obtain ⟨dv, hdv⟩ := mem_keys hm
          obtain ⟨v, hv, hvd⟩ := u2.some hdv
          repeat walk_at "s"
          refine r_dAt u1 hv ?_
          repeat walk_at "s"
          refine k v ?_
          have hf : M.kept.reverse.find? (fun k => decide (home ∈ k.left)) = some kp := find_take hall hrev (decide_eq_true hb)
          unfold valJ
          rw [hg, hf]
          show Dn K [] H' v ((getD' kp.cs home).getD .none)
          rw [hdv]; exact hvd
        · refine ⟨_, rfl, rfl, fun q hq => ?_⟩
          rw [List.take_add_one, hrev] at hq
          rcases List.mem_append.mp hq with hq | hq
          · exact hall q hq
          · rw [List.mem_singleton.mp hq]
            exact decide_eq_false hb
      · rintro σ H' ⟨o3, rfl, rfl, hall⟩
        rw [List.length_map, kl, ← List.length_reverse, List.take_length] at hall
        repeat walk_at "s"
        refine r_methAt g0 (by with_unfolding_all rfl) ?_
        repeat walk_at "s"
        refine ⟨d, fd, _, _, D, _, rfl, hD, by omega, by omega, fun v hv => ?_⟩
        refine k v ?_
        unfold valJ
        rw [hg, find_none' hall]; exact hv
def spJKept (K : PySem.W.Frag) (CJ CC : Addr) : Sp := fun vs H Q _ => ∃ (j L d : Addr) (wo : Option Str) (M : JM) (fj : List Addr), vs = [.ref j] ∧ JAt K CJ CC H j L d wo M fj ∧ M.kept.length ≤ 1000 ∧ (∀ k ∈ M.kept, k.left.length ≤ 1000) ∧
  ∀ l (ts ls : List Addr) H', Same H H' → H l = none → H' l = some (.lst (ts.map V.ref)) → ts.length = M.kept.length → (∀ (i : Nat) (t : Addr) (k : Kp), ts[i]? = some t → M.kept[i]? = some k → ∃ q, ls[i]? = some q ∧ SqT K H' t [.int k.num, .ref q] ∧ H' q = some (.lst (k.left.map V.int)) ∧ H q = none ∧ q ≠ l) → Q (.ref l) H'
abbrev s_Journal_kept : Stmt := inClass (top 34) 7
abbrev N_Journal_kept : List Str := ["self", "one"]
theorem sc_Journal_kept : FnScope N_Journal_kept ["self"] (defScope s_Journal_kept) :=
  ⟨rfl, rfl, rfl, by decide +kernel, rfl, by decide +kernel, by decide +kernel⟩

theorem ok_Journal_kept {f : Addr} {fd : FuncData} (F : Fun K "kept" "Journal.kept" s_Journal_kept f fd) (B : Bl mg) (T : TJn K CJ) (TK : TKp K CC) :
    FnW P w K mg base 1 f fd ["self"] (spJKept K CJ CC) := by
  refine okW F sc_Journal_kept (fun vs H Q E h => ?_) (fun cdv A outer s H vs Q E cc pn hw hr h => ?_)
  · obtain ⟨_, _, _, _, _, _, rfl, _⟩ := h
    rfl
  · obtain ⟨j, L, d, wo, M, fj, rfl, ⟨lk, dc, dr, cks, rfl, hJ⟩, hkl, hkll, k⟩ := h
    obtain ⟨jnd, ⟨dx, h0⟩, h1, ⟨kc, h2, h2'⟩, ⟨kr, h3, h3'⟩, kl, kk, cv⟩ := id hJ
    have hu := hu_of hr
    have nd := sc_Journal_kept.nd
    obtain ⟨cl, n1, n2, n3, n4, n5, n6, n7, n8⟩ := T
    obtain ⟨tc, m1, m2, m3, m4, m5⟩ := TK
    refine ⟨_, (pss_one (ps_ret (pe_lcW (own := [("one", 1)]) (g := (gName 1)) (tt := tYes) hw nd (pi_lstW (K := K) (pe_fldA (K := K) (pv 0))) (blkOk_by (own := [("one", 1)]) (N := N_Journal_kept) (sc := defScope s_Journal_kept) (by decide +kernel)) (fun _ _ _ _ _ _ hw => (pg_name (i := 1) nd rfl (by first | exact Or.inl rfl | exact Or.inr rfl))) (fun _ _ _ _ _ _ hw => pts_nil) (fun _ _ _ _ _ _ hw => pe_tup (pa_cons (pe_fldA (K := K) (pv 1)) (pa_cons (pe_callTy (call_listA (K := K)) rfl B.list (by decide +kernel) (pa_cons (pe_fldA (K := K) (pv 1)) pa_nil)) pa_nil)))))), ?_⟩
    repeat walk_at "s"
    refine lcL (.of h1) (fun l H1 hl s1 hl1 => ?_)
    have nll : lk ≠ l := ne_of_none h1 hl
    refine ⟨fun i H' => ∃ ts ls : List Addr, But [l] H1 H' ∧ H' l = some (.lst (ts.map V.ref)) ∧ ts.length = i ∧ ls.length = i ∧ ∀ (n : Nat) (t : Addr) (k : Kp), ts[n]? = some t → M.kept[n]? = some k → ∃ q, ls[n]? = some q ∧ SqT K H' t [.int k.num, .ref q] ∧ H' q = some (.lst (k.left.map V.int)) ∧ H q = none ∧ q ≠ l, ⟨[], [], .refl, hl1, rfl, rfl, by simp⟩, ?_, ?_, ?_⟩
    · rintro i H2 hi ⟨ts, ls, b2, hl2, htl, hll, hts⟩
      exact .of (b2.at (s1 _ _ h1) (by simpa using nll))
    · rintro i y H2 hi ⟨ts, ls, b2, hl2, htl, hll, hts⟩
      obtain ⟨a, ha, rfl⟩ := map_getG hi
      have hil := (List.getElem?_eq_some_iff.mp ha).1
      obtain ⟨kp, hkp⟩ : ∃ kp, M.kept[i]? = some kp := ⟨_, List.getElem?_eq_getElem (by omega)⟩
      have kp2 := (kk i a kp ha hkp).but ((But.of_same s1).trans b2) fun x hx z => by
        rw [List.mem_singleton.mp z] at hx
        exact (kk i a kp ha hkp).live l hx hl
      obtain ⟨dxc, kvs, g0, g1, g2, g3, g4, g5⟩ := kp2
      have hk2 := hkll kp (List.mem_of_getElem? hkp)
      repeat walk_at "s"
      refine ⟨rfl, ?_⟩
      refine r_yes ?_
      refine r_iteT rfl ?_
      repeat walk_at "s"
      refine r_listL (.of g4) (fun q H3 hq s3 hq3 => ?_)
      repeat walk_at "s"
      refine r_newT (sz (Nat.le_of_ble_eq_true rfl)) (fun t H4 ht s4 ht4 => ?_)
      refine ⟨_, s4 _ _ (s3 _ _ hl2), szl (by rw [List.length_map]; omega), ?_⟩
      obtain ⟨H5, e5, b5, hl5⟩ := upd_ex (o' := .lst ((ts.map V.ref) ++ [.ref t])) (s4 _ _ (s3 _ _ hl2))
      rw [e5]
      have b25 : But [l] H2 H5 := (But.of_same s3).trans ((But.of_same s4).trans b5)
      have nql : q ≠ l := fun z => live_of hl2 (z ▸ hq)
      have fq : H q = none := ((But.of_same s1).trans b2 : But [l] H H2).free hq
      refine ⟨ts ++ [t], ls ++ [q], b2.trans b25, by rw [hl5, List.map_append]; rfl, by rw [List.length_append, htl]; rfl, by rw [List.length_append, hll]; rfl, fun n t' k' hn hk' => ?_⟩
      by_cases hlt : n < ts.length
      · rw [List.getElem?_append_left hlt] at hn
        obtain ⟨q', e1, e2, e3, e4, e5'⟩ := hts n t' k' hn hk'
        exact ⟨q', by rw [List.getElem?_append_left (by omega)]; exact e1, b25.sqT e2, b25.at e3 (by simpa using e5'), e4, e5'⟩
      · have hn2 := (List.getElem?_eq_some_iff.mp hn).1
        rw [List.length_append, List.length_singleton] at hn2
        have e : n = ts.length := by omega
        subst e
        rw [List.getElem?_append_right (Nat.le_refl _), Nat.sub_self] at hn
        cases hn
        rw [htl] at hk'
        rw [hkp] at hk'
        cases hk'
        refine ⟨q, by rw [htl, ← hll, List.getElem?_append_right (Nat.le_refl _), Nat.sub_self]; rfl, SqT.of (b5.tup ht4), b5.at (s4 _ _ hq3) (by simpa using nql), fq, nql⟩
    rintro H2 ⟨ts, ls, b2, hl2, htl, hll, hts⟩
    rw [List.length_map, kl] at htl
    have s02 : Same H H2 := (bt_but (But.of_same s1) b2 (bc_fr hl bc_nil) : But [] H H2).same
    exact k l ts ls H2 s02 hl hl2 htl hts
end
end L27

open PySem L2 PyProof.Rows J


namespace L27
section
variable {P : Program} {w : World} {K : PySem.W.Frag} {mg : Str → Option Value} {base : Heap}
/-! ### the source of draws -/
def SrcAt (H : Hp) (p : Addr) (n : Int) : Prop :=
  ∃ a b c : Int, H p = some (.lst [.int a, .int b, .int c]) ∧ 0 ≤ b ∧ b < 2147483647 ∧ 0 ≤ c ∧ c ≤ n
theorem SrcAt.mono {H : Hp} {p : Addr} {n m : Int} (h : SrcAt H p n) (l : n ≤ m) : SrcAt H p m := by
  obtain ⟨a, b, c, h1, h2, h3, h4, h5⟩ := h
  exact ⟨a, b, c, h1, h2, h3, h4, by omega⟩
theorem SrcAt.but {H H' : Hp} {p : Addr} {n : Int} {S : List Addr} (h : SrcAt H p n) (b : But S H H') (hp : p ∉ S) : SrcAt H' p n := by
  obtain ⟨a, b1, c, h1, h2, h3, h4, h5⟩ := h
  exact ⟨a, b1, c, b.at h1 hp, h2, h3, h4, h5⟩
theorem SrcAt.same {H H' : Hp} {p : Addr} {n : Int} (h : SrcAt H p n) (b : Same H H') : SrcAt H' p n := h.but (But.of_same (S := []) b) (by simp)
theorem SrcAt.live {H : Hp} {p : Addr} {n : Int} (h : SrcAt H p n) : H p ≠ none := by
  obtain ⟨a, b1, c, h1, _⟩ := h
  exact live_of h1
theorem src_same {H H' : Hp} {p : Addr} {n : Int} (b : Same H H') (h : SrcAt H p n) : SrcAt H' p n := h.same b
theorem src_but {H H' : Hp} {p : Addr} {n : Int} {S : List Addr} (b : But S H H') (h : SrcAt H p n) (hp : p ∉ S) : SrcAt H' p n := h.but b hp
local macro_rules | `(tactic| walk_at "src") => `(tactic| first
  | assumption
  | (refine L27.src_same (by assumption) ?_; walk_at "src")
  | (refine L27.src_but (by assumption) ?_ ?_; walk_at "src"; walk_at "ni"))
def spDraw : Sp := fun vs H Q _ => ∃ (p : Addr) (n size : Int), vs = [.ref p, .int size] ∧ SrcAt H p n ∧ n ≤ 2 ^ 40 ∧
  0 < size ∧ size < 1073741824 ∧ ∀ d H', 0 ≤ d → d < size → But [p] H H' → SrcAt H' p (n + 1) → Q (.int d) H'
abbrev s_law_draw : Stmt := top 39
abbrev N_law_draw : List Str := ["_law_source_here", "_law_size", "_law_digit", "_law_number"]
theorem sc_law_draw : FnScope N_law_draw ["_law_source_here", "_law_size"] (defScope s_law_draw) :=
  ⟨rfl, rfl, rfl, by decide +kernel, rfl, by decide +kernel, by decide +kernel⟩

theorem ok_draw {f : Addr} {fd : FuncData} (F : Fun K "_law_draw" "_law_draw" s_law_draw f fd) :
    FnOk P w K mg base CX0 1 f fd ["_law_source_here", "_law_size"] spDraw := by
  refine F.ok sc_law_draw (fun vs H Q E h => ?_) (fun cdv A outer s H vs Q E hr h => ?_)
  · obtain ⟨_, _, _, rfl, _⟩ := h
    rfl
  · obtain ⟨p, n, size, rfl, ⟨a, b, c, hp, hb0, hb1, hc0, hc1⟩, hn, hs0, hs1, k⟩ := h
    have hu := hu_of hr
    have nd := sc_law_draw.nd
    refine ⟨_, (pss_cons (ps_if (pt_cmpR op_gt (pe_ix (ix_any (K := K)) (pv 0) pe_int (fun _ _ => rfl)) pe_int (nomark _)) (pss_cons (ps_set (i := 2) nd rfl (by first | exact Or.inl rfl | exact Or.inr rfl) (pe_op op_mod (pe_ix (ix_any (K := K)) (pv 0) pe_int (fun _ _ => rfl)) (pv 1)))
      (pss_cons (ps_asg (pe_op op_fdiv (pe_ix (ix_any (K := K)) (pv 0) pe_int (fun _ _ => rfl)) (pv 1)) (pg_sub (pv 0) pe_int set_list))
      (pss_one (ps_ret (pv 2))))) pss_nil)
      (pss_cons (ps_asg (pe_op (op_addA (K := K)) (pe_ix (ix_any (K := K)) (pv 0) pe_int (fun _ _ => rfl)) pe_int) (pg_sub (pv 0) pe_int set_list))
      (pss_cons (ps_set (i := 3) nd rfl (by first | exact Or.inl rfl | exact Or.inr rfl) (pe_op op_mod (pe_op op_pow (pe_op (op_addA (K := K)) (pe_op (op_addA (K := K)) (pe_ix (ix_any (K := K)) (pv 0) pe_int (fun _ _ => rfl)) (pe_op (op_mulA (K := K)) pe_int (pe_ix (ix_any (K := K)) (pv 0) pe_int (fun _ _ => rfl)))) pe_int) pe_int) pe_int))
      (pss_cons (ps_set (i := 3) nd rfl (by first | exact Or.inl rfl | exact Or.inr rfl) (pe_op op_mod (pe_op (op_mulA (K := K)) (pv 3) (pe_op (op_addA (K := K)) (pe_op (op_addA (K := K)) (pe_op op_fdiv (pv 3) pe_int) pe_int) (pe_ix (ix_any (K := K)) (pv 0) pe_int (fun _ _ => rfl)))) pe_int))
      (pss_one (ps_ret (pe_op op_mod (pe_op op_fdiv (pe_op op_mod (pe_op (op_mulA (K := K)) (pv 3) (pe_op (op_addA (K := K)) (pe_op op_fdiv (pv 3) pe_int) pe_int)) pe_int) pe_int) (pv 1)))))))), ?_⟩
    repeat walk_at "s"
    refine r_ite (fun ha => ?_) (fun ha => ?_)
    · repeat walk_at "s"
      refine s_lst hp (by rfl) (fun H' b' hp' => ?_)
      repeat walk_at "s"
      exact k _ _ (Int.emod_nonneg _ (by omega)) (Int.emod_lt_of_pos _ hs0) b' ⟨_, _, _, hp', hb0, hb1, hc0, by omega⟩
    · repeat walk_at "s"
      refine s_lst hp (by rfl) (fun H' b' hp' => ?_)
      repeat walk_at "s"
      exact k _ _ (Int.emod_nonneg _ (by omega)) (Int.emod_lt_of_pos _ hs0) b' ⟨_, _, _, hp', hb0, hb1, by omega, by omega⟩

def spCell (K : PySem.W.Frag) : Sp := fun vs H Q _ => ∃ (a : Addr) (ns : List Int) (k : Int), vs = [.ref a, .int k] ∧ SqL K H a (ns.map V.int) ∧ 0 ≤ k ∧
  ns.length ≤ 100 ∧ ∀ z, Q (.int z) H
abbrev s_law_cell_at : Stmt := top 37
abbrev N_law_cell_at : List Str := ["_law_script", "_law_k"]
theorem sc_law_cell_at : FnScope N_law_cell_at ["_law_script", "_law_k"] (defScope s_law_cell_at) :=
  ⟨rfl, rfl, rfl, by decide +kernel, rfl, by decide +kernel, by decide +kernel⟩

theorem ok_cell {f : Addr} {fd : FuncData} (F : Fun K "_law_cell_at" "_law_cell_at" s_law_cell_at f fd) (B : Bl mg) :
    FnOk P w K mg base CX0 1 f fd ["_law_script", "_law_k"] (spCell K) := by
  refine F.ok sc_law_cell_at (fun vs H Q E h => ?_) (fun cdv A outer s H vs Q E hr h => ?_)
  · obtain ⟨_, _, _, rfl, _⟩ := h
    rfl
  · obtain ⟨a, ns, i, rfl, ha, h0, hl, k⟩ := h
    have hu := hu_of hr
    have nd := sc_law_cell_at.nd
    refine ⟨_, (pss_cons (ps_if (pt_cmpR op_ltA (pv 1) (pe_callB (call_lenA (K := K)) rfl B.len PySem.boot_len (pa_cons (pv 0) pa_nil)) (nomark _)) (pss_one (ps_ret (pe_ix (ix_any (K := K)) (pv 0) (pv 1) (fun _ _ => rfl)))) pss_nil)
      (pss_one (ps_ret pe_int))), ?_⟩
    repeat walk_at "s"
    refine r_ite (fun hi => ?_) (fun hi => ?_)
    · repeat walk_at "s"
      obtain ⟨n, rfl⟩ := Int.eq_ofNat_of_zero_le h0
      rw [List.length_map] at hi
      have hn : n < ns.length := by omega
      refine r_ixL (v := .int (ns[n])) ha (atI_nat (by simp [hn])) ?_
      exact k _
    · repeat walk_at "s"
      exact k _

def spSource : Sp := fun vs H Q _ => ∃ c : Int, vs = [.int c] ∧ ∀ p H', H p = none → Same H H' → SrcAt H' p 0 → Q (.ref p) H'
abbrev s_law_source : Stmt := top 38
abbrev N_law_source : List Str := ["_law_cell"]
theorem sc_law_source : FnScope N_law_source ["_law_cell"] (defScope s_law_source) :=
  ⟨rfl, rfl, rfl, by decide +kernel, rfl, by decide +kernel, by decide +kernel⟩

theorem ok_source {f : Addr} {fd : FuncData} (F : Fun K "_law_source" "_law_source" s_law_source f fd) (B : Bl mg) :
    FnOk P w K mg base CX0 1 f fd ["_law_cell"] spSource := by
  refine F.ok sc_law_source (fun vs H Q E h => ?_) (fun cdv A outer s H vs Q E hr h => ?_)
  · obtain ⟨_, rfl, _⟩ := h
    rfl
  · obtain ⟨c, rfl, k⟩ := h
    have hu := hu_of hr
    have nd := sc_law_source.nd
    refine ⟨_, (pss_one (ps_ret (pe_lst (pa_cons (pe_op (op_mulA (K := K)) (pv 0) (pe_callTy call_int1 rfl B.int (by decide +kernel) (pa_cons (pe_cmpR op_ge (pv 0) (pe_op op_pow pe_int pe_int) (nomark _)) pa_nil))) (pa_cons (pe_op op_mod (pv 0) pe_int) (pa_cons pe_int pa_nil)))))), ?_⟩
    repeat walk_at "s"
    refine .inr ⟨_, rfl, ?_⟩
    refine r_mulI (mulR (by split <;> decide) (by split <;> decide)) ?_
    repeat walk_at "s"
    refine r_newL (sz (by simp)) (fun p H' hp s' hp' => ?_)
    exact k p H' hp s' ⟨_, _, _, hp', Int.emod_nonneg _ (by decide), Int.emod_lt_of_pos _ (by decide), by decide, by decide⟩
end
end L27

set_option Elab.async false
set_option linter.all false
set_option maxRecDepth 100000
set_option maxHeartbeats 4000000
open PySem L2 PyProof.Rows J
namespace L27
/-! ### what is read behind checkpoints and commits (pure) -/
theorem read_wr (D : DM) (b c : Int) (v : PyData) : (D.write b v).read c = if b = c then v else D.read c := by
  unfold DM.read DM.write lastW
  rw [List.foldl_append]; rfl
theorem setAll_at {ws : List (Int × PyData)} : ∀ {n : Nat} {D0 : List PyData}, D0.length = n → (∀ w ∈ ws, 0 ≤ w.1 ∧ w.1 < n) → ∀ b : Int, 0 ≤ b → (J.putAll ws D0).getD b.toNat .none = lastW ws b (D0.getD b.toNat .none) := by
  induction ws with
  | nil => intro n D0 _ _ b _; rfl
  | cons w ws ih =>
    intro n D0 hl hw b hb
    have h1 := hw w List.mem_cons_self
    show (J.putAll ws (D0.set w.1.toNat w.2)).getD b.toNat .none = lastW ws b (if w.1 = b then w.2 else D0.getD b.toNat .none)
    rw [ih (n := n) (by rw [List.length_set]; exact hl) (fun u hu => hw u (List.mem_cons_of_mem _ hu)) b hb]
    congr 1
    rw [List.getD_eq_getElem?_getD, List.getElem?_set]
    by_cases he : w.1 = b
    · subst he
      rw [if_pos rfl, if_pos (by omega), if_pos rfl]; rfl
    · rw [if_neg (by omega), if_neg he, ← List.getD_eq_getElem?_getD]
theorem read_fl {n m : Nat} {D : DM} {b : Int} (h : DOk n m D) (h0 : 0 ≤ b) : D.flush.read b = D.read b := by
  show (J.putAll D.writes D.safe).getD b.toNat .none = lastW D.writes b (D.safe.getD b.toNat .none)
  exact setAll_at h.sl (fun w hw => ⟨(h.wv w hw).1, (h.wv w hw).2.1⟩) b h0
theorem DOk.fit {n m m' : Nat} {D : DM} (h : DOk n m D) (l : D.deeds.length ≤ m') : DOk n m' D := ⟨h.n1, h.n2, h.fl, h.sl, h.fv, h.sv, h.wv, h.dv, h.wl, l⟩
theorem getD_of {cs : List (Int × PyData)} (n : (cs.map (·.1)).Nodup) {x : Int} {v : PyData} (h : (x, v) ∈ cs) : getD' cs x = some v := by
  induction cs with
  | nil => cases h
  | cons q r ih =>
    rw [List.map_cons, List.nodup_cons] at n
    unfold getD' at ih ⊢
    rcases List.mem_cons.mp h with rfl | h
    · rw [List.find?_cons_of_pos (by simp)]; rfl
    · have hne : q.1 ≠ x := fun z => n.1 (by rw [z]; exact List.mem_map.mpr ⟨_, h, rfl⟩)
      rw [List.find?_cons_of_neg (by simpa using hne)]
      exact ih n.2 h
theorem tw_p {p : Kp → Bool} {x : Kp} : ∀ {r : List Kp}, x ∈ r.takeWhile p → p x = true
  | [], h => by cases h
  | y :: r, h => by
    rw [List.takeWhile_cons] at h
    split at h
    · rename_i hy
      rcases List.mem_cons.mp h with e | h
      · rw [e]; exact hy
      · exact tw_p h
    · cases h
section
variable {s h m : Nat} {M M' : JM} {D D' : DM} {held : List (Int × PyData)} {gone : List Int} {x : Int}
/-- what the log or the disk has for a home -/
def comJ (s : Nat) (M : JM) (D : DM) (x : Int) : PyData := match M.kept.reverse.find? (fun k => decide (x ∈ k.left)) with
  | some k => (getD' k.cs x).getD .none
  | none => D.read (1 + (s : Int) + x)
theorem valJ_com (s : Nat) (M : JM) (D : DM) (x : Int) : valJ s M D x = match getD' M.cop x with | some d => d | none => comJ s M D x := by
  unfold valJ comJ
  cases getD' M.cop x <;> rfl
theorem homeW_read {k : Kp} (hx : 0 ≤ x) : ∀ {l : List Int} {D : DM}, (homeW s k l D).read (1 + (s : Int) + x) = if x ∈ l then (getD' k.cs x).getD .none else D.read (1 + (s : Int) + x)
  | [], D => by rw [if_neg List.not_mem_nil]; rfl
  | y :: r, D => by
    show (homeW s k r (D.write (1 + (s : Int) + y) ((getD' k.cs y).getD .none))).read _ = _
    rw [homeW_read hx, read_wr]
    by_cases h1 : x ∈ r
    · rw [if_pos h1, if_pos (List.mem_cons_of_mem _ h1)]
    · rw [if_neg h1]
      by_cases h2 : y = x
      · subst h2
        rw [if_pos rfl, if_pos List.mem_cons_self]
      · rw [if_neg (by omega), if_neg fun z => (List.mem_cons.mp z).elim (fun e => h2 e.symm) h1]
theorem homeW_ok {k : Kp} (hv : ∀ c ∈ k.cs, RvOk c.2) : ∀ {l : List Int} {D : DM} {m : Nat}, (∀ y ∈ l, 0 ≤ y ∧ y < h ∧ y ∈ k.cs.map (·.1)) → DOk (1 + s + h) m D → DOk (1 + s + h) (m + l.length) (homeW s k l D) ∧
    (homeW s k l D).deeds = D.deeds ++ l.map fun y => some (1 + (s : Int) + y, (getD' k.cs y).getD .none)
  | [], D, m, _, ok => ⟨ok, by rw [List.map_nil, List.append_nil]; rfl⟩
  | y :: r, D, m, hl, ok => by
    have hy := hl y List.mem_cons_self
    obtain ⟨dv, hdv⟩ := mem_keys hy.2.2
    have ok1 : DOk (1 + s + h) (m + 1) (D.write (1 + (s : Int) + y) ((getD' k.cs y).getD .none)) := ok.write (by omega) (by omega) (by rw [hdv]; exact (hv _ (getD_mem hdv)).blk)
    obtain ⟨h1, h2⟩ := homeW_ok hv (fun z hz => hl z (List.mem_cons_of_mem _ hz)) ok1
    refine ⟨h1.mono (by rw [List.length_cons]; omega), ?_⟩
    show (homeW s k r (D.write _ _)).deeds = _
    rw [h2, List.map_cons]
    show (D.deeds ++ [some (1 + (s : Int) + y, (getD' k.cs y).getD .none)]) ++ _ = _
    rw [List.append_assoc]; rfl
/-- a checkpoint of a log that is not empty -/
theorem ckD_cons {k : Kp} {r : List Kp} (e : M.kept = k :: r) : ckD none s M D = (((homeW s k k.left D).flush).write 0 (hdD (firstM (ckM M)) (tailM s (ckM M)))).flush := by
  unfold ckD
  rw [e]; rfl
theorem ck_all (mo : MOk s h M) (ok : DOk (1 + s + h) m D) (hw : D.writes = []) {k : Kp} {r : List Kp} (e : M.kept = k :: r) :
    (ckD none s M D).deeds = D.deeds ++ ((k.left.map fun y => some (1 + (s : Int) + y, (getD' k.cs y).getD .none)) ++ [none, some (0, hdD (firstM (ckM M)) (tailM s (ckM M))), none]) ∧ (ckD none s M D).writes = [] ∧ k.left.length ≤ 32 ∧
    (∀ x : Int, 0 ≤ x → (ckD none s M D).read (1 + (s : Int) + x) = if x ∈ k.left then (getD' k.cs x).getD .none else D.read (1 + (s : Int) + x)) ∧ (ckD none s M D).read 0 = hdD (firstM (ckM M)) (tailM s (ckM M)) := by
  have hk : k ∈ M.kept := by rw [e]; exact List.mem_cons_self
  obtain ⟨h1, h2⟩ := homeW_ok (s := s) (h := h) (mo.kp k hk).po.cv (mo.left k hk).2 ok
  have h3 := h1.flush
  have h4 := h3.write (b := 0) (v := hdD (firstM (ckM M)) (tailM s (ckM M))) (by decide) (by omega) (hdD_blk _ _)
  rw [ckD_cons e]
  refine ⟨?_, rfl, ?_, fun x hx => ?_, ?_⟩
  · show (((homeW s k k.left D).deeds ++ [none]) ++ [some (0, _)]) ++ [none] = _
    rw [h2]
    simp only [List.append_assoc, List.cons_append, List.nil_append]
  · have l1 := (mo.kp k hk).ll.length_le
    have l2 := ((mo.kp k hk).po.ca).len32
    omega
  · rw [read_fl h4 (by omega), read_wr, if_neg (by omega), read_fl h1 (by omega), homeW_read hx]
  · rw [read_fl h4 (by decide), read_wr, if_pos rfl]
theorem ck_com (mo : MOk s h M) (ok : DOk (1 + s + h) m D) (hw : D.writes = []) (hx : 0 ≤ x) : comJ s (ckM M) (ckD none s M D) x = comJ s M D x := by
  cases e : M.kept with
  | nil =>
    have e1 : ckD none s M D = D := by unfold ckD; rw [e]
    have e2 : (ckM M).kept = [] := by show M.kept.drop _ = []; rw [e, List.drop_nil]
    unfold comJ
    rw [e1, e2, e]
  | cons k r =>
    obtain ⟨_, _, _, rd, _⟩ := ck_all mo ok hw e
    have e2 : (ckM M).kept = r.dropWhile fun k => k.left.isEmpty := by
      show M.kept.drop (dropN M.kept) = _
      rw [e]
      show (k :: r).drop (1 + (r.takeWhile fun k => k.left.isEmpty).length) = _
      rw [Nat.add_comm, List.drop_succ_cons]
      conv => lhs; arg 2; rw [← List.takeWhile_append_dropWhile (p := fun k : Kp => k.left.isEmpty) (l := r)]
      rw [List.drop_left']
      rfl
    have e3 : M.kept.reverse = (r.dropWhile fun k => k.left.isEmpty).reverse ++ ((r.takeWhile fun k => k.left.isEmpty).reverse ++ [k]) := by
      rw [e, List.reverse_cons]
      conv => lhs; arg 1; rw [← List.takeWhile_append_dropWhile (p := fun k : Kp => k.left.isEmpty) (l := r)]
      rw [List.reverse_append, List.append_assoc]
    have e4 : (r.takeWhile fun k => k.left.isEmpty).reverse.find? (fun k => decide (x ∈ k.left)) = none := List.find?_eq_none.mpr fun y hy => by
      have := tw_p (List.mem_reverse.mp hy)
      rw [List.isEmpty_iff.mp this]; simp
    unfold comJ
    rw [e2, rd x hx, e3, List.find?_append, List.find?_append, e4]
    cases (r.dropWhile fun k => k.left.isEmpty).reverse.find? fun k => decide (x ∈ k.left) with
    | some q => rfl
    | none =>
      by_cases hl : x ∈ k.left
      · rw [if_pos hl]
        simp [hl]
      · rw [if_neg hl]
        simp [hl]
/-! commits -/
theorem wrA_all {num : Int} {rs : List Rc} {head : Nat} (hs : 1 ≤ s) (ok : DOk (1 + s + h) m D) (hr : ∀ rc ∈ rs, blockB (rcD num rc) = true) : ∀ i, DOk (1 + s + h) (m + 2 * i) (wrA none s head num rs i D) ∧
    ∀ b : Int, 0 ≤ b → (b < 1 ∨ 1 + (s : Int) ≤ b) → (wrA none s head num rs i D).read b = D.read b := by
  intro i
  induction i with
  | zero => exact ⟨ok, fun _ _ _ => rfl⟩
  | succ i ih =>
    obtain ⟨ih1, ih2⟩ := ih
    cases hq : rs.zipIdx[i]? with
    | none =>
      have hl : rs.zipIdx.length ≤ i := List.getElem?_eq_none_iff.mp hq
      have e : wrA none s head num rs (i + 1) D = wrA none s head num rs i D := by
        unfold wrA
        rw [List.take_of_length_le (by omega), List.take_of_length_le hl]
      rw [e]; exact ⟨ih1.mono (by omega), ih2⟩
    | some q =>
      have e : wrA none s head num rs (i + 1) D = wrF none s head rs.length num (wrA none s head num rs i D) q := foldl_takeG hq
      rw [e]
      have hm : q.1 ∈ rs := by
        rw [List.getElem?_zipIdx] at hq
        obtain ⟨x, hx, rfl⟩ := Option.map_eq_some_iff.mp hq
        exact List.mem_of_getElem? hx
      have hlt : (head + q.2) % s < s := Nat.mod_lt _ (by omega)
      unfold wrF
      split
      · refine ⟨(ih1.flush.write (by omega) (by omega) (hr _ hm)).mono (by omega), fun b h0 hb => ?_⟩
        rw [read_wr, if_neg (by omega)]
        exact (read_fl ih1 h0).trans (ih2 b h0 hb)
      · refine ⟨(ih1.write (by omega) (by omega) (hr _ hm)).mono (by omega), fun b h0 hb => ?_⟩
        rw [read_wr, if_neg (by omega)]
        exact ih2 b h0 hb
theorem cm_all (mo : MOk s h M) (ok : DOk (1 + s + h) m D) : DOk (1 + s + h) (m + 83) (cmD none s M D) ∧ (cmD none s M D).writes = [] ∧ ∀ b : Int, 0 ≤ b → (b < 1 ∨ 1 + (s : Int) ≤ b) → (cmD none s M D).read b = D.read b := by
  have hs := mo.s1
  have hl := (mo.recl none).1
  obtain ⟨h1, h2⟩ := wrA_all (num := M.next) (rs := cmRecs none M) (head := M.head) (by omega) ok (fun rc hrc => parts_blk (mo.parts none) hrc) (cmRecs none M).length
  exact ⟨h1.flush.mono (by omega), rfl, fun b h0 hb => (read_fl h1 h0).trans (h2 b h0 hb)⟩
theorem sortC_get {m : List (Int × PyData)} (n : (m.map (·.1)).Nodup) : getD' (sortC m) x = getD' m x := by
  cases hg : getD' m x with
  | some v =>
    have hm : (x, v) ∈ sortC m := by
      unfold sortC
      refine List.mem_map.mpr ⟨x, (sortI_perm _).mem_iff.mpr (List.mem_map.mpr ⟨_, getD_mem hg, rfl⟩), ?_⟩
      rw [hg]; rfl
    obtain ⟨d, hd⟩ := mem_keys (m := sortC m) (List.mem_map.mpr ⟨_, hm, rfl⟩)
    have h2 := sortC_mem (getD_mem hd)
    have h3 : getD' m x = some d := getD_of n h2
    rw [hd, ← h3, hg]
  | none =>
    cases hg2 : getD' (sortC m) x with
    | none => rfl
    | some d =>
      have h3 : getD' m x = some d := getD_of n (sortC_mem (getD_mem hg2))
      rw [hg] at h3; cases h3
theorem cm_com (mo : MOk s h M) (ok : DOk (1 + s + h) m D) (hx : 0 ≤ x) (hr : x ∉ M.rev) : comJ s (cmM none s M) (cmD none s M D) x = match getD' M.cop x with | some v => v | none => comJ s M D x := by
  have e1 : (cmM none s M).kept.reverse = cmKp none M :: (M.kept.map (forgK ((sortC M.cop).map (·.1) ++ sortI M.rev))).reverse := by
    rw [cmM_eq, List.reverse_append]; rfl
  have hkeys : x ∈ (sortC M.cop).map (·.1) ↔ (getD' M.cop x).isSome = true := by
    rw [sortC_keys, (sortI_perm _).mem_iff]
    constructor
    · intro hm
      obtain ⟨d, hd⟩ := mem_keys hm
      rw [hd]; rfl
    · intro hm
      obtain ⟨d, hd⟩ := Option.isSome_iff_exists.mp hm
      exact List.mem_map.mpr ⟨_, getD_mem hd, rfl⟩
  cases hg : getD' M.cop x with
  | some v =>
    have hl : x ∈ (cmKp none M).left := hkeys.mpr (by rw [hg]; rfl)
    unfold comJ
    rw [e1, List.find?_cons_of_pos (by simpa using hl)]
    show (getD' (sortC M.cop) x).getD .none = v
    rw [sortC_get mo.cn, hg]; rfl
  | none =>
    have hl : x ∉ (sortC M.cop).map (·.1) := fun z => by
      have := hkeys.mp z
      rw [hg] at this; cases this
    have hf : x ∉ (sortC M.cop).map (·.1) ++ sortI M.rev := fun z => (List.mem_append.mp z).elim hl fun z => hr ((sortI_perm _).mem_iff.mp z)
    unfold comJ
    have hl' : x ∉ (cmKp none M).left := hl
    rw [e1, List.find?_cons_of_neg (by rw [decide_eq_true_iff]; exact hl'), ← List.map_reverse, List.find?_map]
    have e2 : ((fun k : Kp => decide (x ∈ k.left)) ∘ forgK ((sortC M.cop).map (·.1) ++ sortI M.rev)) = fun k => decide (x ∈ k.left) := by
      funext k
      simp only [Function.comp, forgK, List.mem_filter, decide_eq_true_eq]
      rw [decide_eq_decide]
      exact ⟨fun z => z.1, fun z => ⟨z, by simpa using hf⟩⟩
    rw [e2]
    cases M.kept.reverse.find? fun k => decide (x ∈ k.left) with
    | some k => rfl
    | none => exact (cm_all mo ok).2.2 _ (by omega) (.inr (by omega))
end
end L27

set_option Elab.async false
set_option linter.all false
set_option maxRecDepth 100000
set_option maxHeartbeats 4000000
open PySem L2 PyProof.Rows J
namespace L27
/-! ### what holds between the steps (pure) -/
theorem getD_put {m : List (Int × PyData)} {k x : Int} {v : PyData} : getD' (putD m k v) x = if x = k then some v else getD' m x := by
  unfold putD
  split
  · rename_i hh
    unfold getD'
    induction m with
    | nil => cases hh
    | cons q m ih =>
      rw [List.map_cons]
      by_cases e : q.1 = k
      · by_cases ex : x = k
        · rw [if_pos ex, if_pos e, List.find?_cons_of_pos (by simpa using (e.trans ex.symm))]; rfl
        · rw [if_neg ex, if_pos e, List.find?_cons_of_neg (by simpa using fun z : q.1 = x => ex (z.symm.trans e)), List.find?_cons_of_neg (by simpa using fun z : q.1 = x => ex (z.symm.trans e))]
          congr 1
          clear ih hh
          induction m with
          | nil => rfl
          | cons r m ih =>
            rw [List.map_cons]
            by_cases er : r.1 = k
            · rw [if_pos er, List.find?_cons_of_neg (by simpa using fun z : r.1 = x => ex (z.symm.trans er)), List.find?_cons_of_neg (by simpa using fun z : r.1 = x => ex (z.symm.trans er))]; exact ih
            · rw [if_neg er]
              by_cases ez : r.1 = x
              · rw [List.find?_cons_of_pos (by simpa using ez), List.find?_cons_of_pos (by simpa using ez)]
              · rw [List.find?_cons_of_neg (by simpa using ez), List.find?_cons_of_neg (by simpa using ez)]; exact ih
      · rw [if_neg e]
        have hh' : hasD m k = true := by
          unfold hasD at hh ⊢
          rw [List.any_cons, decide_eq_false e, Bool.false_or] at hh
          exact hh
        by_cases ez : q.1 = x
        · rw [List.find?_cons_of_pos (by simpa using ez), List.find?_cons_of_pos (by simpa using ez), if_neg (fun z => e (ez.trans z))]
        · rw [List.find?_cons_of_neg (by simpa using ez), List.find?_cons_of_neg (by simpa using ez)]
          exact ih hh'
  · rename_i hh
    have hn : getD' m k = none := by
      rw [hasD_get] at hh
      cases hg : getD' m k with
      | none => rfl
      | some d => rw [hg] at hh; exact absurd rfl hh
    unfold getD' at hn ⊢
    rw [List.find?_append]
    by_cases ex : x = k
    · subst ex
      rw [if_pos rfl]
      have : m.find? (fun q => decide (q.1 = x)) = none := by
        cases hf : m.find? (fun q => decide (q.1 = x)) with
        | none => rfl
        | some y => rw [hf] at hn; cases hn
      rw [this, List.find?_cons_of_pos (by simp)]; rfl
    · rw [if_neg ex]
      cases hf : m.find? (fun q => decide (q.1 = x)) with
      | none => rw [List.find?_cons_of_neg (by simpa using fun z : k = x => ex z.symm)]; rfl
      | some y => rfl
theorem getD_dropE {m : List (Int × PyData)} {k x : Int} : getD' (dropD m k) x = if x = k then none else getD' m x := by
  unfold dropD getD'
  induction m with
  | nil => simp
  | cons q m ih =>
    by_cases e : q.1 = k
    · rw [List.filter_cons_of_neg (by simpa using e), ih]
      by_cases ex : x = k
      · rw [if_pos ex, if_pos ex]
      · rw [if_neg ex, if_neg ex, List.find?_cons_of_neg (by simpa using fun z : q.1 = x => ex (z.symm.trans e))]
    · rw [List.filter_cons_of_pos (by simpa using e)]
      by_cases ez : q.1 = x
      · rw [List.find?_cons_of_pos (by simpa using ez), List.find?_cons_of_pos (by simpa using ez), if_neg (fun z => e (ez.trans z))]
      · rw [List.find?_cons_of_neg (by simpa using ez), List.find?_cons_of_neg (by simpa using ez)]
        exact ih
def putL (cs ph : List (Int × PyData)) : List (Int × PyData) := cs.foldl (fun acc c => putD acc c.1 c.2) ph
def dropL (hs : List Int) (ph : List (Int × PyData)) : List (Int × PyData) := hs.foldl dropD ph
theorem putL_get {x : Int} : ∀ {cs ph : List (Int × PyData)}, (cs.map (·.1)).Nodup → getD' (putL cs ph) x = match getD' cs x with | some v => some v | none => getD' ph x
  | [], ph, _ => rfl
  | c :: cs, ph, n => by
    rw [List.map_cons, List.nodup_cons] at n
    show getD' (putL cs (putD ph c.1 c.2)) x = _
    rw [putL_get n.2, getD_put]
    by_cases e : c.1 = x
    · have e1 : getD' (c :: cs) x = some c.2 := by unfold getD'; rw [List.find?_cons_of_pos (by simpa using e)]; rfl
      have e2 : getD' cs x = none := by
        cases hg : getD' cs x with
        | none => rfl
        | some d => exact absurd (List.mem_map.mpr ⟨_, getD_mem hg, rfl⟩) (e ▸ n.1)
      rw [e1, e2, if_pos e.symm]
    · have e1 : getD' (c :: cs) x = getD' cs x := by unfold getD'; rw [List.find?_cons_of_neg (by simpa using e)]
      rw [e1, if_neg (fun z => e z.symm)]
theorem dropL_get {x : Int} : ∀ {hs : List Int} {ph : List (Int × PyData)}, getD' (dropL hs ph) x = if x ∈ hs then none else getD' ph x
  | [], ph => by rw [if_neg List.not_mem_nil]; rfl
  | y :: hs, ph => by
    show getD' (dropL hs (dropD ph y)) x = _
    rw [dropL_get, getD_dropE]
    by_cases h1 : x ∈ hs
    · rw [if_pos h1, if_pos (List.mem_cons_of_mem _ h1)]
    · rw [if_neg h1]
      by_cases h2 : x = y
      · rw [if_pos h2, if_pos (by rw [h2]; exact List.mem_cons_self)]
      · rw [if_neg h2, if_neg (fun z => (List.mem_cons.mp z).elim h2 h1)]
theorem dropD_sub (m : List (Int × PyData)) (k : Int) : (dropD m k).Sublist m := List.filter_sublist
theorem putL_nd : ∀ {cs ph : List (Int × PyData)}, (ph.map (·.1)).Nodup → ((putL cs ph).map (·.1)).Nodup
  | [], ph, n => n
  | c :: cs, ph, n => putL_nd (cs := cs) (putD_keys n)
theorem dropL_sub : ∀ {hs : List Int} {ph : List (Int × PyData)}, (dropL hs ph).Sublist ph
  | [], ph => .refl _
  | y :: hs, ph => (dropL_sub (hs := hs)).trans (dropD_sub ph y)
theorem putL_mem {c : Int × PyData} : ∀ {cs ph : List (Int × PyData)}, c ∈ putL cs ph → c ∈ ph ∨ c ∈ cs
  | [], ph, h => .inl h
  | d :: cs, ph, h => by
    rcases putL_mem (cs := cs) h with h | h
    · rcases putD_mem h with h | h
      · exact .inl h
      · exact .inr (by rw [h]; exact List.mem_cons_self)
    · exact .inr (List.mem_cons_of_mem _ h)
/-- gone behind the copies, the revokes -/
def popG (cs : List Int) (g : List Int) : List Int := cs.foldl (fun g x => g.filter fun y => decide (y ≠ x)) g
def addG (rs : List Int) (g : List Int) : List Int := rs.foldl (fun g x => if x ∈ g then g else g ++ [x]) g
theorem popG_mem {x : Int} : ∀ {cs g : List Int}, x ∈ popG cs g ↔ x ∈ g ∧ x ∉ cs
  | [], g => by simp [popG]
  | c :: cs, g => by
    show x ∈ popG cs (g.filter _) ↔ _
    rw [popG_mem, List.mem_filter]
    simp only [List.mem_cons, not_or, decide_eq_true_eq]
    exact ⟨fun z => ⟨z.1.1, z.1.2, z.2⟩, fun z => ⟨⟨z.1, z.2.1⟩, z.2.2⟩⟩
theorem addG_mem {x : Int} : ∀ {rs g : List Int}, x ∈ addG rs g ↔ x ∈ g ∨ x ∈ rs
  | [], g => by simp [addG]
  | r :: rs, g => by
    show x ∈ addG rs (if r ∈ g then g else g ++ [r]) ↔ _
    rw [addG_mem]
    by_cases hr : r ∈ g
    · rw [if_pos hr, List.mem_cons]
      exact ⟨fun z => z.elim .inl fun z => .inr (.inr z), fun z => z.elim .inl fun z => z.elim (fun e => .inl (e ▸ hr)) .inr⟩
    · rw [if_neg hr, List.mem_append, List.mem_singleton, List.mem_cons]
      exact ⟨fun z => z.elim (fun z => z.elim .inl fun e => .inr (.inl e)) fun z => .inr (.inr z), fun z => z.elim (fun z => .inl (.inl z)) fun z => z.elim (fun e => .inl (.inr e)) .inr⟩
structure P27 (s h : Nat) (M : JM) (D : DM) (held : List (Int × PyData)) (gone : List Int) : Prop where
  mo : MOk s h M
  dj : ∀ x ∈ M.cop.map (·.1), x ∉ M.rev
  pd : D.writes = []
  hd : ∃ sl, D.read 0 = hdD (firstM M) sl
  lg : ∀ k ∈ M.kept, ∀ x ∈ k.left, x ∉ gone
  hn : (held.map (·.1)).Nodup
  he : ∀ c ∈ held, 0 ≤ c.1 ∧ c.1 < h ∧ comJ s M D c.1 = c.2
  hv : ∀ c ∈ held, RvOk c.2
  gn : gone.Nodup
  gr : ∀ x ∈ gone, 0 ≤ x ∧ x < h
theorem popG_nd : ∀ {cs g : List Int}, g.Nodup → (popG cs g).Nodup
  | [], g, n => n
  | c :: cs, g, n => popG_nd (cs := cs) (n.sublist List.filter_sublist)
theorem addG_nd : ∀ {rs g : List Int}, g.Nodup → (addG rs g).Nodup
  | [], g, n => n
  | r :: rs, g, n => by
    refine addG_nd (rs := rs) (g := if r ∈ g then g else g ++ [r]) ?_
    split
    · exact n
    · rename_i h
      refine List.nodup_append.mpr ⟨n, by simp, fun a ha b hb => ?_⟩
      rw [List.mem_singleton.mp hb]
      exact fun e => h (e ▸ ha)
def heldN (M : JM) (held : List (Int × PyData)) : List (Int × PyData) := dropL (sortI M.rev) (putL (sortC M.cop) held)
def goneN (M : JM) (gone : List Int) : List Int := addG (sortI M.rev) (popG ((sortC M.cop).map (·.1)) gone)
section
variable {s h m : Nat} {M : JM} {D : DM} {held : List (Int × PyData)} {gone : List Int} {home : Int} {v : PyData}
theorem P27.log (z : P27 s h M D held gone) (h0 : 0 ≤ home) (h1 : home < h) (hv : RvOk v) : P27 s h (logM none home v M) D held gone := by
  refine ⟨z.mo.log h0 h1 hv, fun x hx hr => ?_, z.pd, z.hd, z.lg, z.hn, z.he, z.hv, z.gn, z.gr⟩
  have hr' : x ∈ M.rev.filter fun y => decide (y ≠ home) := hr
  rw [List.mem_filter] at hr'
  obtain ⟨c, hc, rfl⟩ := List.mem_map.mp hx
  rcases putD_mem hc with hc | hc
  · exact z.dj _ (List.mem_map.mpr ⟨c, hc, rfl⟩) hr'.1
  · rw [hc] at hr'
    simpa using hr'.2
theorem P27.revoke (z : P27 s h M D held gone) (h0 : 0 ≤ home) (h1 : home < h) : P27 s h (revM none home M) D held gone := by
  refine ⟨z.mo.revoke h0 h1, fun x hx hr => ?_, z.pd, z.hd, z.lg, z.hn, z.he, z.hv, z.gn, z.gr⟩
  obtain ⟨c, hc, rfl⟩ := List.mem_map.mp hx
  have hc' : c ∈ dropD M.cop home := hc
  unfold dropD at hc'
  rw [List.mem_filter] at hc'
  have hr' : c.1 ∈ (if home ∈ M.rev then M.rev else M.rev ++ [home]) := hr
  have ne : c.1 ≠ home := by simpa using hc'.2
  have : c.1 ∈ M.rev := by
    split at hr'
    · exact hr'
    · rcases List.mem_append.mp hr' with q | q
      · exact q
      · exact absurd (List.mem_singleton.mp q) ne
  exact z.dj _ (List.mem_map.mpr ⟨c, hc'.1, rfl⟩) this
theorem P27.ckpt (z : P27 s h M D held gone) (ok : DOk (1 + s + h) m D) : P27 s h (ckM M) (ckD none s M D) held gone := by
  cases e : M.kept with
  | nil =>
    have e1 : ckD none s M D = D := by unfold ckD; rw [e]
    have e2 : ckM M = M := by unfold ckM; rw [e, List.drop_nil, ← e]
    rw [e1, e2]; exact z
  | cons k r =>
    obtain ⟨_, w, _, _, r0⟩ := ck_all z.mo ok z.pd e
    exact ⟨z.mo.ckpt, z.dj, w, ⟨_, r0⟩, fun k' hk' => z.lg k' (List.mem_of_mem_drop hk'), z.hn, fun c hc => ⟨(z.he c hc).1, (z.he c hc).2.1, (ck_com z.mo ok z.pd (z.he c hc).1).trans (z.he c hc).2.2⟩, z.hv, z.gn, z.gr⟩
theorem P27.commit (z : P27 s h M D held gone) (ok : DOk (1 + s + h) m D) (hf : (cmRecs none M).length + sumSz M.kept ≤ s) : P27 s h (cmM none s M) (cmD none s M D) (heldN M held) (goneN M gone) := by
  obtain ⟨_, w, rd⟩ := cm_all z.mo ok
  have nsc : ((sortC M.cop).map (·.1)).Nodup := by rw [sortC_keys]; exact (sortI_perm _).nodup_iff.mpr z.mo.cn
  have hn : ((heldN M held).map (·.1)).Nodup := (putL_nd z.hn).sublist (dropL_sub.map _)
  have inH : ∀ c ∈ heldN M held, c ∈ held ∨ c ∈ M.cop := fun c hc => (putL_mem (dropL_sub.subset hc)).imp id fun h => sortC_mem h
  refine ⟨z.mo.commit hf, fun x hx => (by cases hx), w, ?_, fun k hk x hx => ?_, hn, fun c hc => ?_, fun c hc => (inH c hc).elim (z.hv c) fun h => z.mo.cv c h, addG_nd (popG_nd z.gn), fun x hx => ?_⟩
  · obtain ⟨sl, hsl⟩ := z.hd
    refine ⟨sl, ?_⟩
    rw [rd 0 (by decide) (.inl (by decide)), hsl]
    have ec : firstM (cmM none s M) = firstM M := by
      have ef : forgA none M = M.kept.map (forgK ((sortC M.cop).map (·.1) ++ sortI M.rev)) := rfl
      unfold firstM
      rw [cmM_eq, ef]
      cases M.kept <;> rfl
    rw [ec]
  · intro hg
    unfold goneN at hg
    rw [addG_mem, popG_mem] at hg
    rw [cmM_eq] at hk
    rcases List.mem_append.mp hk with hk | hk
    · obtain ⟨k0, hk0, rfl⟩ := List.mem_map.mp (show k ∈ M.kept.map (forgK ((sortC M.cop).map (·.1) ++ sortI M.rev)) from hk)
      have hx' : x ∈ k0.left.filter fun y => decide (y ∉ (sortC M.cop).map (·.1) ++ sortI M.rev) := hx
      rw [List.mem_filter, decide_eq_true_iff, List.mem_append, not_or] at hx'
      rcases hg with hg | hg
      · exact z.lg k0 hk0 x hx'.1 hg.1
      · exact hx'.2.2 hg
    · rw [List.mem_singleton.mp hk] at hx
      have hx' : x ∈ (sortC M.cop).map (·.1) := hx
      rcases hg with hg | hg
      · exact hg.2 hx'
      · rw [sortC_keys] at hx'
        exact z.dj x ((sortI_perm _).mem_iff.mp hx') ((sortI_perm _).mem_iff.mp hg)
  · have hg := getD_of hn (show (c.1, c.2) ∈ heldN M held from hc)
    unfold heldN at hg
    rw [dropL_get] at hg
    split at hg
    · cases hg
    · rename_i hr
      have hr' : c.1 ∉ M.rev := fun q => hr ((sortI_perm _).mem_iff.mpr q)
      rw [putL_get nsc, sortC_get z.mo.cn] at hg
      have hb : 0 ≤ c.1 ∧ c.1 < h := (inH c hc).elim (fun q => ⟨(z.he c q).1, (z.he c q).2.1⟩) fun q => z.mo.cr c q
      refine ⟨hb.1, hb.2, ?_⟩
      rw [cm_com z.mo ok hb.1 hr']
      cases hq : getD' M.cop c.1 with
      | some v => rw [hq] at hg; exact Option.some.inj hg
      | none =>
        rw [hq] at hg
        exact (z.he (c.1, c.2) (getD_mem hg)).2.2
  · unfold goneN at hx
    rw [addG_mem, popG_mem] at hx
    rcases hx with hx | hx
    · exact z.gr x hx.1
    · exact z.mo.rr x ((sortI_perm _).mem_iff.mp hx)
theorem P27.new {num : Int} {slot : Nat} (h1 : 8 ≤ s) (h2 : s ≤ 64) (h3 : h ≤ 32) (hn : 1 ≤ num) (hs : slot < s) (hw : D.writes = []) (hr : D.read 0 = hdD num slot) : P27 s h ⟨num, slot, [], [], []⟩ D [] [] :=
  ⟨MOk.new h1 h2 h3 hn hs, fun x hx => (by cases hx), hw, ⟨slot, hr⟩, fun k hk => (by cases hk), List.nodup_nil, fun c hc => (by cases hc), fun c hc => (by cases hc), List.nodup_nil, fun x hx => (by cases hx)⟩
end
end L27

open PySem L2 PyProof.Rows J


namespace L27
/-! ### the law's record, and what it reads -/
section
variable (L d j hd gn t x : V)
def wF : List (L2.Key × V) := [(.inr "layout", L), (.inr "disk", d), (.inr "journal", j), (.inr "held", hd), (.inr "gone", gn), (.inr "turn", t)]
theorem wv_layout : valV (wF L d j hd gn t) (.inr "layout") = some L := by with_unfolding_all rfl
theorem wv_disk : valV (wF L d j hd gn t) (.inr "disk") = some d := by with_unfolding_all rfl
theorem wv_journal : valV (wF L d j hd gn t) (.inr "journal") = some j := by with_unfolding_all rfl
theorem wv_held : valV (wF L d j hd gn t) (.inr "held") = some hd := by with_unfolding_all rfl
theorem wv_gone : valV (wF L d j hd gn t) (.inr "gone") = some gn := by with_unfolding_all rfl
theorem wv_turn : valV (wF L d j hd gn t) (.inr "turn") = some t := by with_unfolding_all rfl
theorem wp_turn : putK (wF L d j hd gn t) (.inr "turn") x = wF L d j hd gn x := by with_unfolding_all rfl
theorem wm6 : mergeK [] (wF L d j hd gn t) = wF L d j hd gn t := by with_unfolding_all rfl
end
local macro_rules | `(tactic| walk_at "mv") => `(tactic| with_reducible first
  | exact (wv_layout ..) | exact (wv_disk ..) | exact (wv_journal ..) | exact (wv_held ..) | exact (wv_gone ..) | exact (wv_turn ..))
theorem valV_none : ∀ {kvs : List (L2.Key × V)} {k : L2.Key}, k ∉ kvs.map (·.1) → valV kvs k = none
  | [], k, _ => rfl
  | q :: r, k, h => by
    rw [List.map_cons, List.mem_cons, not_or] at h
    rw [valV_neg (fun e => h.1 e.symm)]
    exact valV_none h.2
def HeldAt (K : PySem.W.Frag) (H : Hp) (hd : Addr) (ph : List (Int × PyData)) : Prop := ∃ kh, H hd = some (.dK kh) ∧ KvD K [] H kh ph
def GoneAt (H : Hp) (gn : Addr) (gone : List Int) : Prop := ∃ kg, H gn = some (.dK kg) ∧ kg.map (·.1) = gone.map Sum.inl
/-- what the law compares ahead of a checkpoint and behind it -/
def runD (M : JM) : PyData := .tuple [.list ((sortC M.cop).map dWr), .list ((sortI M.rev).map .int)]
def valsD (s h : Nat) (M : JM) (D : DM) : List PyData := runD M :: (List.range h).map fun i : Nat => valJ s M D i
theorem RvOk.sh {v : PyData} (h : RvOk v) : J.Sh 9 v := J.blk_sh h.blk
theorem valJ_sh {s h m : Nat} {M : JM} {D : DM} (ok : MOk s h M) (dk : DOk (1 + s + h) m D) (i : Nat) (hi : i < h) : J.Sh 9 (valJ s M D i) ∧ noL (valJ s M D i) = true := by
  unfold valJ
  split
  · rename_i dv hg
    have := ok.cv _ (getD_mem hg)
    exact ⟨this.sh, this.nol⟩
  · split
    · rename_i kq hq
      have hm := List.mem_of_find?_eq_some hq
      have hp := List.find?_some hq
      have hmk : kq ∈ M.kept := List.mem_reverse.mp hm
      obtain ⟨dv, hdv⟩ := mem_keys ((ok.left kq hmk).2 _ (of_decide_eq_true hp)).2.2
      rw [hdv]
      have := (ok.kp kq hmk).po.cv _ (getD_mem hdv)
      exact ⟨this.sh, this.nol⟩
    · have := dk.read (b := 1 + (s : Int) + i) (by omega) (by omega)
      exact ⟨blk_sh this, blockB_nol this⟩
section
variable {P : Program} {w : World} {K : PySem.W.Frag} {mg : Str → Option Value} {base : Heap} {CDisk CLayout CJ CC CNS : Addr} {H H' : Hp}
def spVals (CDisk CLayout : Addr) (K : PySem.W.Frag) (CJ CC : Addr) : Sp := fun vs H Q _ => ∃ (j L d : Addr) (M : JM) (fj fd : List Addr) (s h m : Nat) (D : DM), vs = [.ref j, .int h] ∧ JAt K CJ CC H j L d none M fj ∧ LayAt CLayout H L s h ∧ DiskAt K CDisk H d fd (1 + s + h) m D ∧ MOk s h M ∧
  ∀ l H', Same H H' → H l = none → (∀ S, Live S H → Dn K S H' (.ref l) (.list (valsD s h M D))) → Q (.ref l) H'
abbrev s_law_values : Stmt := top 41
abbrev N_law_values : List Str := ["_law_journal", "_law_homes", "_law_home"]
theorem sc_law_values : FnScope N_law_values ["_law_journal", "_law_homes"] (defScope s_law_values) :=
  ⟨rfl, rfl, rfl, by decide +kernel, rfl, by decide +kernel, by decide +kernel⟩

theorem ok_values {f : Addr} {fd : FuncData} (F : Fun K "_law_values" "_law_values" s_law_values f fd) (B : Bl mg) (M_Journal_running : MetW P w K mg base 1 CJ "running" (spJRun K CJ CC) [])
    (M_Journal_value : MetW P w K mg base 5 CJ "value" (spJVal CDisk CLayout K CJ CC) []) :
    FnW P w K mg base 6 f fd ["_law_journal", "_law_homes"] (spVals CDisk CLayout K CJ CC) := by
  refine okW F sc_law_values (fun vs H Q E h => ?_) (fun cdv A outer s H vs Q E cc pn hw hr h => ?_)
  · obtain ⟨_, _, _, _, _, _, _, _, _, _, rfl, _⟩ := h
    rfl
  · obtain ⟨j, L, d, M, fj, fd, sl, ho, m, D, rfl, hJ, hL, hD, ok, k⟩ := h
    have hcl := ok.cl
    have hrl := ok.rl
    have hh2 := ok.h2
    have hu := hu_of hr
    have nd := sc_law_values.nd
    obtain ⟨lkj, dcj, drj, ckj, efj, jin⟩ := id hJ
    obtain ⟨dx, hj0⟩ := jin.h0
    refine ⟨_, (pss_one (ps_ret (pe_op (op_addA (K := K)) (pe_lst (pa_cons (pe_mtW0 M_Journal_running hw hr (by decide) (pv 0)) pa_nil)) (pe_lcW (own := [("_law_home", 2)]) (g := (gName 2)) (tt := tYes) hw nd (pi_range1W rfl B.range (pa_cons (pv 1) pa_nil)) (blkOk_by (own := [("_law_home", 2)]) (N := N_law_values) (sc := defScope s_law_values) (by decide +kernel)) (fun _ _ _ _ _ _ hw => (pg_name (i := 2) nd rfl (by first | exact Or.inl rfl | exact Or.inr rfl))) (fun _ _ _ _ _ _ hw => pts_nil) (fun _ _ _ _ _ _ hw => pe_mtW M_Journal_value hw hr (by decide) (pv 0) (pa_cons (pv 2) pa_nil)))))), ?_⟩
    repeat walk_at "s"
    refine r_methAt hj0 (by with_unfolding_all rfl) ?_
    repeat walk_at "s"
    refine ⟨j, L, d, none, M, _, rfl, hJ, by omega, by omega, fun t a b xs H1 s1 ht ha hb ha1 hxs hb1 => ?_⟩
    repeat walk_at "s"
    refine r_newL (sz (Nat.le_of_ble_eq_true rfl)) (fun l1 H2 hl1 s2 hl12 => ?_)
    repeat walk_at "s"
    have nlC : noLs ((sortC M.cop).map dWr) = true := noLs_map fun c hc => by
      show (true && (noL c.2 && true)) = true
      rw [(ok.cv c (sortC_mem hc)).nol]; rfl
    have s02 : Same H H2 := fun b o e => s2 b o (s1 b o e)
    have hj2 := s02 _ _ hj0
    have hJ2 := hJ.same s02
    have hL2 := hL.same s02
    have hD2 := hD.same s02
    refine r_lcR ?_
    repeat walk_at "s"
    refine lcR (j := (ho : Int)) ⟨by omega, by omega⟩ (fun lv H6 hlv s6 hlv6 => ?_)
    have vsh := fun (i : Nat) (hi : i < ho) => valJ_sh ok hD.ok i hi
    refine ⟨fun i H' => ∃ ws, But [lv] H6 H' ∧ H' lv = some (.lst ws) ∧ DnAll K [] H' ws ((List.range i).map fun i : Nat => valJ sl M D i), ⟨[], .refl, hlv6, .nil⟩, ?_, ?_⟩
    · rintro i H7 hi ⟨ws, b7, hl7, hws⟩
      have b57 : But [lv] H2 H7 := (But.of_same s6).trans b7
      have nfr : ∀ {F : List Addr}, Live F H2 → Dj F [lv] := fun hF x hx z => hF x hx ((List.mem_singleton.mp z) ▸ hlv)
      have hj7 := b57.at hj2 (by simpa using ne_of_none hj2 hlv)
      have hJ7 := hJ2.but b57 (nfr hJ2.live)
      have hL7 := hL2.but b57 (fun z => hL2.ex.elim fun _ h => live_of h ((List.mem_singleton.mp z) ▸ hlv))
      have hD7 := hD2.but b57 (nfr hD2.live)
      have wl : ws.length = i := by rw [hws.length, List.length_map, List.length_range]
      have nlw : noLs ((List.range i).map fun i : Nat => valJ sl M D i) = true := noLs_map fun n hn => (vsh n (by have := List.mem_range.mp hn; omega)).2
      clear b57
      repeat walk_at "s"
      refine ⟨rfl, ?_⟩
      refine r_yes ?_
      refine r_iteT rfl ?_
      repeat walk_at "s"
      refine r_methAt hj7 (by with_unfolding_all rfl) ?_
      repeat walk_at "s"
      refine ⟨j, L, d, none, M, fj, fd, sl, ho, m, D, i, rfl, hJ7, hL7, hD7, ok, by omega, by omega, fun v hv => ?_⟩
      refine ⟨_, hl7, szl (by omega), ?_⟩
      obtain ⟨H8, e8, b8, hl8⟩ := upd_ex (o' := .lst (ws ++ [v])) hl7
      rw [e8]
      refine ⟨_, b7.trans b8, hl8, ?_⟩
      rw [List.range_succ, List.map_append]
      exact (hws.nlb nlw b8).snoc (hv.nlb (vsh i (by omega)).2 b8)
    rintro H7 ⟨ws, b7, hl7, hws⟩
    have s27 : Same H2 H7 := (bt_but (But.of_same s6) b7 (bc_fr hlv bc_nil) : But [] H2 H7).same
    rw [Int.toNat_natCast] at hws
    have wl : ws.length = ho := by rw [hws.length, List.length_map, List.length_range]
    refine r_addL (s27 _ _ hl12) hl7 (sz (by simp; omega)) (fun l9 H9 hl9 s9 hl99 => ?_)
    have nl1 : l1 ≠ l9 := fun z => live_of (s27 _ _ hl12) (z ▸ hl9)
    have s29 : Same H2 H9 := fun b o e => s9 b o (s27 b o e)
    have s19 : Same H1 H9 := fun b o e => s29 b o (s2 b o e)
    have f9 : H l9 = none := (But.of_same (S := []) fun b o e => s27 b o (s02 b o e)).free hl9
    refine k l9 H9 (fun b o e => s29 b o (s02 b o e)) f9 fun S hS => ?_
    have h1 : Dn K S H9 (.ref t) (runD M) := .tup ((But.of_same (S := []) s19).sqT ht) (.cons (.lst (s19 _ _ ha1) (fun q => hS a q ha) ((hxs.same s19).nlb (S' := S) nlC (But.refl (S := [])))) (.one (.lst (s19 _ _ hb1) (fun q => hS b q hb) DnAll.ints)))
    have nlw : noLs ((List.range ho).map fun i : Nat => valJ sl M D i) = true := noLs_map fun n hn => (vsh n (List.mem_range.mp hn)).2
    exact .lst hl99 (fun q => hS l9 q f9) (.cons h1 (hws.nlb nlw (But.of_same (S := []) s9)))
/-! no home that is gone is written -/
def KeptR (s many : Nat) (D : DM) (gone : List Int) : Prop := ∀ b v, some (b, v) ∈ D.deeds.drop many → 1 + (s : Int) ≤ b → b - (1 + s) ∉ gone
def spKR (CDisk CLayout : Addr) (K : PySem.W.Frag) : Sp := fun vs H Q _ => ∃ (wa L d j hd gn : Addr) (t : Int) (fd : List Addr) (s h m many : Nat) (D : DM) (gone : List Int), vs = [.ref wa, .int many] ∧ H wa = some (.dK (wF (.ref L) (.ref d) (.ref j) (.ref hd) (.ref gn) (.int t))) ∧ LayAt CLayout H L s h ∧ DiskAt K CDisk H d fd (1 + s + h) m D ∧ GoneAt H gn gone ∧
  m ≤ 1000000 ∧ KeptR s many D gone ∧ ∀ H', Same H H' → Q (.bl true) H'
abbrev s_law_kept_right : Stmt := top 42
abbrev N_law_kept_right : List Str := ["_law_w", "_law_many", "_law_first", "_law_event"]
theorem sc_law_kept_right : FnScope N_law_kept_right ["_law_w", "_law_many"] (defScope s_law_kept_right) :=
  ⟨rfl, rfl, rfl, by decide +kernel, rfl, by decide +kernel, by decide +kernel⟩

theorem ok_kept_right {f : Addr} {fd : FuncData} (F : Fun K "_law_kept_right" "_law_kept_right" s_law_kept_right f fd) (M_Layout_slots : MetW P w K mg base 1 CLayout "slots" (spLayI CLayout fun s _ => s) [])
    (M_Disk_events : MetW P w K mg base 1 CDisk "events" (spCopyOf K CDisk fun D => D.deeds.map dEv) []) :
    FnW P w K mg base 2 f fd ["_law_w", "_law_many"] (spKR CDisk CLayout K) := by
  refine okW F sc_law_kept_right (fun vs H Q E h => ?_) (fun cdv A outer s H vs Q E cc pn hw hr h => ?_)
  · obtain ⟨_, _, _, _, _, _, _, _, _, _, _, _, _, _, rfl, _⟩ := h
    rfl
  · obtain ⟨wa, L, d, j, hd, gn, t, fd, sl, ho, m, many, D, gone, rfl, hwa, hL, hD, ⟨kg, hg, hkg⟩, hm, kr, k⟩ := h
    have hu := hu_of hr
    have nd := sc_law_kept_right.nd
    obtain ⟨dl, hLx⟩ := hL.ex
    obtain ⟨dxd, q1, q2, q3, q4, x1, x2, x3, x4, efd, hnd, hd0, _⟩ := id hD.ex
    refine ⟨_, (pss_cons (ps_set (i := 2) nd rfl (by first | exact Or.inl rfl | exact Or.inr rfl) (pe_op (op_addA (K := K)) pe_int (pe_mtW0 M_Layout_slots hw hr (by decide) (pe_dget hu (pv 0) pe_str (fun _ _ => rfl)))))
      (pss_cons (ps_forW PassesOwn.never hw (pi_lstW (K := K) (pe_slice (sl_any (K := K)) (pe_mtW0 M_Disk_events hw hr (by decide) (pe_dget hu (pv 0) pe_str (fun _ _ => rfl))) (po_some (pv 1)) po_none)) (pg_name (i := 3) nd rfl (by first | exact Or.inl rfl | exact Or.inr rfl))
      (pss_one (ps_if (PW.pt (pw_and (pt_cmpR (op_eqA (K := K) hr.units) (pe_ix (ix_any (K := K)) (pv 3) pe_int (fun _ _ => rfl)) pe_str (nomark _)) (pw_and (pt_cmpR op_ge (pe_ix (ix_any (K := K)) (pv 3) pe_int (fun _ _ => rfl)) (pv 2) (nomark _)) (pw_and1 (pt_cmp (pc_din hu (pe_op op_sub (pe_ix (ix_any (K := K)) (pv 3) pe_int (fun _ _ => rfl)) (pv 2)) (pe_dget hu (pv 0) pe_str (fun _ _ => rfl))) rfl))))) (pss_one (ps_ret pe_bl)) pss_nil)))
      (pss_one (ps_ret pe_bl)))), ?_⟩
    repeat walk_at "s"
    refine r_methAt hLx (by with_unfolding_all rfl) ?_
    repeat walk_at "s"
    refine ⟨L, sl, ho, rfl, hL, ?_⟩
    repeat walk_at "s"
    refine r_methAt hd0 (by with_unfolding_all rfl) ?_
    repeat walk_at "s"
    refine ⟨d, fd, _, _, D, rfl, hD, fun l ys H1 hl s1 hl1 hys => ?_⟩
    repeat walk_at "s"
    refine r_slL (.of hl1) (fun l2 H2 hl2 s2 hl22 => ?_)
    rw [cut_from] at hl22
    have s02 : Same H H2 := fun b o e => s2 b o (s1 b o e)
    have hye : DnAll K [] H2 (ys.drop many) ((D.deeds.drop many).map dEv) := by
      rw [List.map_drop]
      exact (hys.same s2).drop many
    have hwa2 := s02 _ _ hwa
    have hg2 := s02 _ _ hg
    clear s1 hl1 s2
    refine forL (.of hl22) (fun i σ H' => ∃ o3, σ = [some (.ref wa), some (.int many), some (.int (1 + sl)), o3] ∧ Same H2 H')
      ⟨_, rfl, fun b o e => e⟩ ?_ ?_ ?_
    · rintro i σ H3 hi ⟨o3, rfl, s3⟩
      exact .of (s3 _ _ hl22)
    · rintro i y σ H3 hi ⟨o3, rfl, s3⟩
      have hil := (List.getElem?_eq_some_iff.mp hi).1
      have hll : (ys.drop many).length = (D.deeds.drop many).length := by rw [hye.length, List.length_map]
      obtain ⟨q, hq⟩ : ∃ q, (D.deeds.drop many)[i]? = some q := ⟨_, List.getElem?_eq_getElem (by omega)⟩
      have hqm := List.mem_of_getElem? hq
      obtain ⟨y', hy', hyd⟩ := hye.getD (i := i) (d := dEv q) (by rw [List.getElem?_map, hq]; rfl)
      rw [hi] at hy'
      cases hy'
      have hyd3 := hyd.same s3
      have hwa3 := s3 _ _ hwa2
      have hg3 := s3 _ _ hg2
      cases q with
      | none =>
        obtain ⟨a, xs, rfl, ha, hxs⟩ := hyd3.tup_inv
        cases hxs with
        | cons hx hr1 =>
        cases hx with
        | str =>
        repeat walk_at "s"
        refine r_iteF (by decide +kernel) ?_
        repeat walk_at "s"
        exact ⟨_, rfl, s3⟩
      | some bv =>
        obtain ⟨b, v⟩ := bv
        obtain ⟨a, xs, rfl, ha, hxs⟩ := hyd3.tup_inv
        cases hxs with
        | cons hx hr1 =>
        cases hx with
        | str =>
        cases hr1 with
        | cons hx2 hr2 =>
        cases hx2 with
        | int =>
        repeat walk_at "s"
        refine r_iteT (by decide +kernel) ?_
        repeat walk_at "s"
        by_cases hb : 1 + (sl : Int) ≤ b
        · refine r_iteT (decide_eq_true hb) ?_
          repeat walk_at "s"
          refine ⟨gn, valV kg (.inl (b - (1 + (sl : Int)))), rfl, .inl ⟨kg, _, .inl hg3, rfl, rfl⟩, ?_⟩
          have hno : valV kg (.inl (b - (1 + (sl : Int)))) = none := by
            refine valV_none fun hmem => ?_
            rw [hkg] at hmem
            obtain ⟨x, hx, hxe⟩ := List.mem_map.mp hmem
            cases hxe
            exact kr b v hqm hb hx
          rw [hno]
          refine ⟨_, rfl, ?_⟩
          refine r_iteF rfl ?_
          repeat walk_at "s"
          exact ⟨_, rfl, s3⟩
        · refine r_iteF (decide_eq_false hb) ?_
          repeat walk_at "s"
          exact ⟨_, rfl, s3⟩
    rintro σ H3 ⟨o3, rfl, s3⟩
    repeat walk_at "s"
    exact k H3 fun b o e => s3 b o (s02 b o e)
end
end L27

open PySem L2 PyProof.Rows J


namespace L27
local macro_rules | `(tactic| walk_at "mv") => `(tactic| with_reducible first
  | exact (wv_layout ..) | exact (wv_disk ..) | exact (wv_journal ..) | exact (wv_held ..) | exact (wv_gone ..) | exact (wv_turn ..))
section
variable {P : Program} {w : World} {K : PySem.W.Frag} {mg : Str → Option Value} {base : Heap} {CDisk CLayout CJ CC CNS : Addr} {H H' : Hp}
/-! a checkpoint is right -/
structure W27 (K : PySem.W.Frag) (CDisk CLayout CJ CC : Addr) (H : Hp) (wa L d j hd gn : Addr) (fj fd : List Addr) (t : Int) (s h m : Nat) (M : JM) (D : DM) (held : List (Int × PyData)) (gone : List Int) : Prop where
  hw : H wa = some (.dK (wF (.ref L) (.ref d) (.ref j) (.ref hd) (.ref gn) (.int t)))
  hL : LayAt CLayout H L s h
  hJ : JAt K CJ CC H j L d none M fj
  hD : DiskAt K CDisk H d fd (1 + s + h) m D
  hh : HeldAt K H hd held
  hg : GoneAt H gn gone
  dj : Dj fj fd
  nd : [wa, L, hd, gn].Nodup
  na : ∀ x ∈ [wa, L, hd, gn], x ∉ fj ∧ x ∉ fd
  p : P27 s h M D held gone
section
variable {wa L d j hd gn : Addr} {fj fd fj' : List Addr} {t : Int} {s h m m' : Nat} {M M' : JM} {D D' : DM} {held : List (Int × PyData)} {gone : List Int}
theorem W27.same (z : W27 K CDisk CLayout CJ CC H wa L d j hd gn fj fd t s h m M D held gone) (b : Same H H') : W27 K CDisk CLayout CJ CC H' wa L d j hd gn fj fd t s h m M D held gone := by
  obtain ⟨hw, hL, hJ, hD, ⟨kh, h1, h2⟩, ⟨kg, g1, g2⟩, dj, nd, na, p⟩ := z
  exact ⟨b _ _ hw, hL.same b, hJ.same b, hD.same b, ⟨kh, b _ _ h1, h2.same b⟩, ⟨kg, b _ _ g1, g2⟩, dj, nd, na, p⟩
/-- the journal and the disk move on -/
theorem W27.move (z : W27 K CDisk CLayout CJ CC H wa L d j hd gn fj fd t s h m M D held gone) (b : But (fj ++ fd) H H') (hf : ∀ x ∈ fj', x ∈ fj ∨ H x = none) (hD : DiskAt K CDisk H' d fd (1 + s + h) m' D') (hJ : JAt K CJ CC H' j L d none M' fj') (p : P27 s h M' D' held gone) :
    W27 K CDisk CLayout CJ CC H' wa L d j hd gn fj' fd t s h m' M' D' held gone := by
  obtain ⟨hw, hL, hJ0, hD0, ⟨kh, h1, h2⟩, ⟨kg, g1, g2⟩, dj, nd, na, p0⟩ := z
  have nn : ∀ x ∈ [wa, L, hd, gn], x ∉ fj ++ fd := fun x hx q => (List.mem_append.mp q).elim (na x hx).1 (na x hx).2
  refine ⟨b.at hw (nn _ (by simp)), hL.but b (nn _ (by simp)), hJ, hD, ⟨kh, b.at h1 (nn _ (by simp)), h2.nlb (fun c hc => (p.hv c hc).nol) b⟩, ⟨kg, b.at g1 (nn _ (by simp)), g2⟩, fun x hx q => (hf x hx).elim (fun h => dj x h q) fun h => hD0.live x q h, nd, fun x hx => ⟨fun q => (hf x q).elim (na x hx).1 fun h => ?_, (na x hx).2⟩, p⟩
  have lv : ∀ x ∈ [wa, L, hd, gn], H x ≠ none := fun x hx => by
    simp only [List.mem_cons, List.not_mem_nil, or_false] at hx
    rcases hx with e | e | e | e
    · rw [e]; exact live_of hw
    · rw [e]; exact hL.ex.elim fun _ h => live_of h
    · rw [e]; exact live_of h1
    · rw [e]; exact live_of g1
  exact lv x hx h
end
theorem vals_ckpt {s h m : Nat} {M : JM} {D : DM} (mo : MOk s h M) (ok : DOk (1 + s + h) m D) (hw : D.writes = []) : valsD s h (ckM M) (ckD none s M D) = valsD s h M D := by
  unfold valsD
  have e1 : runD (ckM M) = runD M := rfl
  rw [e1]
  congr 1
  refine List.map_congr_left fun i hi => ?_
  rw [valJ_com, valJ_com, ck_com mo ok hw (by omega)]
  rfl
theorem kept_ckpt {s h m : Nat} {M : JM} {D : DM} {held : List (Int × PyData)} {gone : List Int} (p : P27 s h M D held gone) (ok : DOk (1 + s + h) m D) : KeptR s D.deeds.length (ckD none s M D) gone := by
  cases e : M.kept with
  | nil =>
    have e1 : ckD none s M D = D := by unfold ckD; rw [e]
    rw [e1]
    intro b v hb
    rw [List.drop_length] at hb
    cases hb
  | cons k r =>
    intro b v hb hbs hg
    rw [(ck_all p.mo ok p.pd e).1, List.drop_left] at hb
    rcases List.mem_append.mp hb with hb | hb
    · obtain ⟨y, hy, hye⟩ := List.mem_map.mp hb
      cases hye
      refine p.lg k (by rw [e]; exact List.mem_cons_self) y hy ?_
      have : 1 + (s : Int) + y - (1 + s) = y := by omega
      rwa [this] at hg
    · simp only [List.mem_cons, List.not_mem_nil, or_false, Option.some.injEq, Prod.mk.injEq, reduceCtorEq, false_or] at hb
      omega
theorem ck_len {s h m : Nat} {M : JM} {D : DM} (mo : MOk s h M) (ok : DOk (1 + s + h) m D) (hw : D.writes = []) : (ckD none s M D).deeds.length ≤ D.deeds.length + 35 := by
  cases e : M.kept with
  | nil =>
    have e1 : ckD none s M D = D := by unfold ckD; rw [e]
    rw [e1]; omega
  | cons k r =>
    obtain ⟨e1, _, l, _⟩ := ck_all mo ok hw e
    rw [e1]
    simp only [List.length_append, List.length_map, List.length_cons, List.length_nil]
    omega
def spCR (CDisk CLayout CJ CC : Addr) (K : PySem.W.Frag) : Sp := fun vs H Q _ => ∃ (wa L d j hd gn : Addr) (fj fd : List Addr) (t : Int) (s h m : Nat) (M : JM) (D : DM) (held : List (Int × PyData)) (gone : List Int), vs = [.ref wa] ∧ W27 K CDisk CLayout CJ CC H wa L d j hd gn fj fd t s h m M D held gone ∧ m ≤ 900000 ∧
  ∀ fj' H', But (fj ++ fd) H H' → (∀ x ∈ fj', x ∈ fj ∨ H x = none) → W27 K CDisk CLayout CJ CC H' wa L d j hd gn fj' fd t s h (m + 35) (ckM M) (ckD none s M D) held gone → Q (.bl true) H'
abbrev s_law_checkpoint_right : Stmt := top 43
abbrev N_law_checkpoint_right : List Str := ["_law_w", "_law_held", "_law_many"]
theorem sc_law_checkpoint_right : FnScope N_law_checkpoint_right ["_law_w"] (defScope s_law_checkpoint_right) :=
  ⟨rfl, rfl, rfl, by decide +kernel, rfl, by decide +kernel, by decide +kernel⟩

theorem ok_checkpoint_right {f : Addr} {fd : FuncData} (F : Fun K "_law_checkpoint_right" "_law_checkpoint_right" s_law_checkpoint_right f fd) (B : Bl mg) (M_Layout_homes : MetW P w K mg base 1 CLayout "homes" (spLayI CLayout fun _ h => h) [])
    (C_law_values : ClW P w K mg base 6 "_law_values" (spVals CDisk CLayout K CJ CC)) (M_Disk_events : MetW P w K mg base 1 CDisk "events" (spCopyOf K CDisk fun D => D.deeds.map dEv) []) (M_Journal_checkpoint : MetW P w K mg base 13 CJ "checkpoint" (spCkpt CLayout CDisk K CJ CC) [])
    (C_law_kept_right : ClW P w K mg base 2 "_law_kept_right" (spKR CDisk CLayout K)) :
    FnW P w K mg base 14 f fd ["_law_w"] (spCR CDisk CLayout CJ CC K) := by
  refine okW F sc_law_checkpoint_right (fun vs H Q E h => ?_) (fun cdv A outer s H vs Q E cc pn hw hr h => ?_)
  · obtain ⟨_, _, _, _, _, _, _, _, _, _, _, _, _, _, _, _, rfl, _⟩ := h
    rfl
  · obtain ⟨wa, L, d, j, hd, gn, fj, fd, t, sl, ho, m, M, D, held, gone, rfl, z, hm, k⟩ := h
    have hu := hu_of hr
    have nd := sc_law_checkpoint_right.nd
    have hw0 := z.hw
    obtain ⟨dl, hLx⟩ := z.hL.ex
    obtain ⟨dxd, q1, q2, q3, q4, x1, x2, x3, x4, efd, hnd, hd0, _⟩ := id z.hD.ex
    obtain ⟨lkj, dcj, drj, ckj, efj, jin⟩ := id z.hJ
    obtain ⟨dx, hj0⟩ := jin.h0
    refine ⟨_, (pss_cons (ps_set (i := 1) nd rfl (by first | exact Or.inl rfl | exact Or.inr rfl) (pe_clW C_law_values hw hr (by decide) (pa_cons (pe_dget hu (pv 0) pe_str (fun _ _ => rfl)) (pa_cons (pe_mtW0 M_Layout_homes hw hr (by decide) (pe_dget hu (pv 0) pe_str (fun _ _ => rfl))) pa_nil))))
      (pss_cons (ps_set (i := 2) nd rfl (by first | exact Or.inl rfl | exact Or.inr rfl) (pe_callB (call_lenA (K := K)) rfl B.len PySem.boot_len (pa_cons (pe_mtW0 M_Disk_events hw hr (by decide) (pe_dget hu (pv 0) pe_str (fun _ _ => rfl))) pa_nil)))
      (pss_cons (ps_if (PW.pt (pw_and (pt_cmpR (op_eqA (K := K) hr.units) (pe_mtW0 M_Journal_checkpoint hw hr (by decide) (pe_dget hu (pv 0) pe_str (fun _ _ => rfl))) pe_int (nomark _)) (pw_and1 (pt_cmpR (op_neA (K := K) hr.units) (pe_callB (call_lenA (K := K)) rfl B.len PySem.boot_len (pa_cons (pe_mtW0 M_Disk_events hw hr (by decide) (pe_dget hu (pv 0) pe_str (fun _ _ => rfl))) pa_nil)) (pv 2) (nomark _))))) (pss_one (ps_ret pe_bl)) pss_nil)
      (pss_one (ps_ret (pe_and (pe_cmpR (op_eqA (K := K) hr.units) (pe_clW C_law_values hw hr (by decide) (pa_cons (pe_dget hu (pv 0) pe_str (fun _ _ => rfl)) (pa_cons (pe_mtW0 M_Layout_homes hw hr (by decide) (pe_dget hu (pv 0) pe_str (fun _ _ => rfl))) pa_nil))) (pv 1) (nomark _)) (pe_one (pe_clW C_law_kept_right hw hr (by decide) (pa_cons (pv 0) (pa_cons (pv 2) pa_nil)))))))))), ?_⟩
    repeat walk_at "s"
    refine r_methAt hLx (by with_unfolding_all rfl) ?_
    repeat walk_at "s"
    refine ⟨L, sl, ho, rfl, z.hL, ?_⟩
    repeat walk_at "s"
    refine ⟨j, L, d, M, fj, fd, sl, ho, m, D, rfl, z.hJ, z.hL, z.hD, z.p.mo, fun l H1 s1 hl hv1 => ?_⟩
    have z1 := z.same s1
    have hvl : Dn K (fj ++ fd) H1 (.ref l) (.list (valsD sl ho M D)) := hv1 _ fun x hx => (List.mem_append.mp hx).elim (z.hJ.live x) (z.hD.live x)
    have hw1 := z1.hw
    have hd1 := s1 _ _ hd0
    clear hv1 hw0 hd0
    repeat walk_at "s"
    refine r_methAt hd1 (by with_unfolding_all rfl) ?_
    repeat walk_at "s"
    refine ⟨d, fd, _, _, D, rfl, z1.hD, fun l2 ys H2 hl2 s2 hl22 hys => ?_⟩
    have hyl : ys.length = D.deeds.length := by rw [hys.length, List.length_map]
    have z2 := z1.same s2
    have hw2 := z2.hw
    have hj2 := s2 _ _ (s1 _ _ hj0)
    have hvl2 := hvl.same s2
    walk_at "s"
    walk_at "s"
    with_reducible refine r_seqCut (fun σ' H' => σ' = [some (.ref wa), some (.ref l), some (.int D.deeds.length)] ∧ ∃ fj', But (fj ++ fd) H H' ∧ (∀ x ∈ fj', x ∈ fj ∨ H x = none) ∧ W27 K CDisk CLayout CJ CC H' wa L d j hd gn fj' fd t sl ho (m + 35) (ckM M) (ckD none sl M D) held gone ∧ Dn K [] H' (.ref l) (.list (valsD sl ho M D))) ?_ ?_
    rotate_left
    · intro cut
      repeat walk_at "s"
      refine r_methAt hj2 (by with_unfolding_all rfl) ?_
      repeat walk_at "s"
      have kps : ∀ k ∈ M.kept, k.left.length ≤ 1000 ∧ ∀ x ∈ k.left, 0 ≤ x ∧ x < ho ∧ x ∈ k.cs.map (·.1) := fun k' hk' => by
        have l1 := (z.p.mo.kp k' hk').ll.length_le
        have l2 := ((z.p.mo.kp k' hk').po.ca).len32
        exact ⟨by omega, (z.p.mo.left k' hk').2⟩
      have hkl := z.p.mo.kl
      have hs2 := z.p.mo.s2
      refine ⟨j, L, d, none, M, fj, fd, sl, ho, m, D, rfl, z2.hJ, z2.hL, (z2.na L (by simp)).1, (z2.na L (by simp)).2, z2.hD, z2.dj, hm, by omega, kps, fun fj' m' H3 b3 hf3 hm3 hD3 hJ3 => ?_⟩
      have hlen := ck_len z.p.mo z.hD.ok z.p.pd
      have hm0 := z.hD.ok.dl
      have hD3' : DiskAt K CDisk H3 d fd (1 + sl + ho) (m + 35) (ckD none sl M D) := ⟨DOk.fit hD3.ok (by omega), hD3.ex⟩
      have z3 := z2.move b3 hf3 hD3' hJ3 (z2.p.ckpt z.hD.ok)
      have b13 : But (fj ++ fd) H H3 := (But.of_same fun b o e => s2 b o (s1 b o e)).trans b3
      have hv3 := hvl2.but b3 (fun x hx => hx)
      have hf3' : ∀ x ∈ fj', x ∈ fj ∨ H x = none := fun x hx => (hf3 x hx).imp id fun h => (But.of_same (S := []) fun b o e => s2 b o (s1 b o e)).free h
      have hdz : (ckD none sl M D).deeds.length = D.deeds.length ∨ dropN M.kept ≠ 0 := by
        cases e : M.kept with
        | nil =>
          left
          have e1 : ckD none sl M D = D := by unfold ckD; rw [e]
          rw [e1]
        | cons a r =>
          right
          exact fun h => by
            have h2 : 1 + (r.takeWhile fun k => k.left.isEmpty).length = 0 := h
            omega
      obtain ⟨dxe, p1, p2, p3, p4, y1, y2, y3, y4, efe, hne, hd3, _⟩ := id z3.hD.ex
      have hw3 := z3.hw
      repeat walk_at "s"
      by_cases hdn : dropN M.kept = 0
      · refine r_iteT (decide_eq_true (by omega)) ?_
        repeat walk_at "s"
        refine r_methAt hd3 (by with_unfolding_all rfl) ?_
        repeat walk_at "s"
        refine ⟨d, fd, _, _, _, rfl, z3.hD, fun l4 us H4 hl4 s4 hl44 hus => ?_⟩
        repeat walk_at "s"
        have hul : us.length = D.deeds.length := by
          rw [hus.length, List.length_map]
          exact hdz.resolve_right (fun h => h hdn)
        refine r_iteF (by rw [hul, hyl, decide_eq_true rfl]; rfl) ?_
        exact cut _ _ ⟨by rw [← hyl]; rfl, fj', b13.trans (But.of_same s4), hf3', z3.same s4, (hv3.sub (by simp)).same s4⟩
      · refine r_iteF (decide_eq_false (by omega)) ?_
        repeat walk_at "s"
        exact cut _ _ ⟨by rw [← hyl]; rfl, fj', b13, hf3', z3, hv3.sub (by simp)⟩
    rintro σ' H4 ⟨rfl, fj', b4, hf4, z4, hv4⟩
    clear z1 z2 hvl hvl2 hw1 hw2 hj2 hd1 hl22 hys s1 s2
    have hw4 := z4.hw
    obtain ⟨dl4, hL4⟩ := z4.hL.ex
    obtain ⟨_, _, _, _, efj4, jin4⟩ := id z4.hJ
    repeat walk_at "s"
    refine r_methAt hL4 (by with_unfolding_all rfl) ?_
    repeat walk_at "s"
    refine ⟨L, sl, ho, rfl, z4.hL, ?_⟩
    repeat walk_at "s"
    refine ⟨j, L, d, _, fj', fd, sl, ho, _, _, rfl, z4.hJ, z4.hL, z4.hD, z4.p.mo, fun l5 H5 s5 hl5 hv5 => ?_⟩
    rw [vals_ckpt z.p.mo z.hD.ok z.p.pd] at hv5
    repeat walk_at "s"
    have vsh : J.Sh 13 (.list (valsD sl ho M D)) := J.Sh.list fun x hx => by
      unfold valsD at hx
      rcases List.mem_cons.mp hx with rfl | hx
      · unfold runD
        refine J.Sh.tup fun y hy => ?_
        rcases List.mem_cons.mp hy with rfl | hy
        · exact J.Sh.list fun e he => by
            obtain ⟨c, hc, rfl⟩ := List.mem_map.mp he
            exact J.dwr_sh (z.p.mo.cv c (sortC_mem hc)).sh
        · rw [List.mem_singleton.mp hy]; exact J.Sh.ints
      · obtain ⟨i, hi, rfl⟩ := List.mem_map.mp hx
        exact (valJ_sh z.p.mo z.hD.ok i (List.mem_range.mp hi)).1.mono (by decide)
    refine J.r_eqSh (hv5 [] Live.nil).dp (hv4.same s5).dp vsh (by decide) ?_
    repeat walk_at "s"
    have z5 := z4.same s5
    refine r_iteT rfl ?_
    repeat walk_at "s"
    refine ⟨wa, L, d, j, hd, gn, t, fd, sl, ho, _, D.deeds.length, _, gone, rfl, z5.hw, z5.hL, z5.hD, z5.hg, by omega, kept_ckpt z.p z.hD.ok, fun H6 s6 => ?_⟩
    exact k fj' H6 (b4.trans (But.of_same fun b o e => s6 b o (s5 b o e))) hf4 (z5.same s6)
end
end L27

open PySem L2 PyProof.Rows J


namespace L27
local macro_rules | `(tactic| walk_at "mv") => `(tactic| with_reducible first
  | exact (wv_layout ..) | exact (wv_disk ..) | exact (wv_journal ..) | exact (wv_held ..) | exact (wv_gone ..) | exact (wv_turn ..))
/-! ### a commit, behind as many checkpoints as it takes -/
theorem up_len : ∀ {l : List Int} {lo hi : Int}, l.Pairwise (· < ·) → (∀ x ∈ l, lo ≤ x ∧ x < hi) → lo ≤ hi → (l.length : Int) ≤ hi - lo
  | [], lo, hi, _, _, h => by simp only [List.length_nil]; omega
  | x :: r, lo, hi, hp, hb, h => by
    have hx := hb x List.mem_cons_self
    rw [List.pairwise_cons] at hp
    have := up_len (lo := x + 1) (hi := hi) hp.2 (fun y hy => by
      have h1 := hp.1 y hy
      have h2 := (hb y (List.mem_cons_of_mem _ hy)).2
      exact ⟨by omega, h2⟩) (by omega)
    rw [List.length_cons]; omega
theorem in_len {l : List Int} {h : Nat} (n : l.Nodup) (b : ∀ x ∈ l, 0 ≤ x ∧ x < h) : l.length ≤ h := by
  have a := asc_sort n b
  have := up_len (l := sortI l) (lo := 0) (hi := h) a.up (fun x hx => b x ((sortI_perm _).mem_iff.mp hx)) (by omega)
  rw [sortI_len] at this
  omega
theorem recs24 {s h : Nat} {M : JM} (mo : MOk s h M) (hh : h ≤ 12) : (cmRecs none M).length ≤ 24 := by
  have h1 := recs_len (sortC M.cop) (cmRev none M)
  have h2 := in_len mo.cn fun x hx => by
    obtain ⟨c, hc, rfl⟩ := List.mem_map.mp hx
    exact mo.cr c hc
  rw [List.length_map] at h2
  have h3 := (cmRev_sub none M).length_le
  have h4 := in_len mo.rn mo.rr
  rw [sortI_len] at h3
  have e1 : n8 (sortC M.cop) = ((sortC M.cop).length + 7) / 8 := rfl
  have e2 : n8 (cmRev none M) = ((cmRev none M).length + 7) / 8 := rfl
  rw [sortC_len] at e1
  unfold cmRecs; omega
theorem putD_len {m : List (Int × PyData)} {k : Int} {v : PyData} : (putD m k v).length ≤ m.length + 1 := by
  unfold putD
  split
  · rw [List.length_map]; omega
  · rw [List.length_append, List.length_singleton]; omega
theorem putL_len : ∀ {cs ph : List (Int × PyData)}, (putL cs ph).length ≤ ph.length + cs.length
  | [], ph => Nat.le_refl _
  | c :: cs, ph => by
    have h1 := putL_len (cs := cs) (ph := putD ph c.1 c.2)
    have h2 := putD_len (m := ph) (k := c.1) (v := c.2)
    have e : putL (c :: cs) ph = putL cs (putD ph c.1 c.2) := rfl
    rw [e, List.length_cons]; omega
theorem addG_len : ∀ {rs g : List Int}, (addG rs g).length ≤ g.length + rs.length
  | [], g => Nat.le_refl _
  | r :: rs, g => by
    have h1 := addG_len (rs := rs) (g := if r ∈ g then g else g ++ [r])
    have h2 : (if r ∈ g then g else g ++ [r]).length ≤ g.length + 1 := by
      split
      · omega
      · rw [List.length_append, List.length_singleton]; omega
    have e : addG (r :: rs) g = addG rs (if r ∈ g then g else g ++ [r]) := rfl
    rw [e, List.length_cons]; omega
theorem popG_len : ∀ {cs g : List Int}, (popG cs g).length ≤ g.length
  | [], g => Nat.le_refl _
  | c :: cs, g => Nat.le_trans (popG_len (cs := cs)) (List.length_filter_le ..)
theorem keys_len {kr : List (L2.Key × V)} {rs : List Int} (h : kr.map (·.1) = rs.map Sum.inl) : kr.length = rs.length := by
  have := congrArg List.length h
  rwa [List.length_map, List.length_map] at this
theorem held_len {s h : Nat} {M : JM} {D : DM} {held : List (Int × PyData)} {gone : List Int} (p : P27 s h M D held gone) : held.length ≤ h ∧ gone.length ≤ h := by
  have h1 := in_len p.hn fun x hx => by
    obtain ⟨c, hc, rfl⟩ := List.mem_map.mp hx
    exact ⟨(p.he c hc).1, (p.he c hc).2.1⟩
  rw [List.length_map] at h1
  exact ⟨h1, in_len p.gn p.gr⟩
theorem ckM_len {M : JM} (h : M.kept ≠ []) : (ckM M).kept.length + 1 ≤ M.kept.length := by
  show (M.kept.drop (dropN M.kept)).length + 1 ≤ _
  rw [List.length_drop]
  cases e : M.kept with
  | nil => exact absurd e h
  | cons a r =>
    have h2 : dropN (a :: r) = 1 + (r.takeWhile fun k => k.left.isEmpty).length := rfl
    rw [h2, List.length_cons]; omega
section
variable {P : Program} {w : World} {K : PySem.W.Frag} {mg : Str → Option Value} {base : Heap} {CDisk CLayout CJ CC CNS : Addr} {H H' : Hp}
section
variable {wa L d j hd gn : Addr} {fj fd fj' : List Addr} {t : Int} {s h m m' : Nat} {M M' : JM} {D D' : DM} {held held' : List (Int × PyData)} {gone gone' : List Int}
/-- what is held and what is gone move on -/
theorem W27.note {kh : List (L2.Key × V)} {kg : List (L2.Key × V)} (z : W27 K CDisk CLayout CJ CC H wa L d j hd gn fj fd t s h m M D held gone) (b : But [hd, gn] H H') (e1 : H' hd = some (.dK kh)) (e2 : KvD K [] H' kh held') (e3 : H' gn = some (.dK kg)) (e4 : kg.map (·.1) = gone'.map Sum.inl) (p : P27 s h M D held' gone') :
    W27 K CDisk CLayout CJ CC H' wa L d j hd gn fj fd t s h m M D held' gone' := by
  obtain ⟨hw, hL, hJ, hD, _, _, dj, nd, na, p0⟩ := z
  have nd2 := nd
  simp only [List.nodup_cons, List.mem_cons, List.not_mem_nil, or_false, not_or] at nd2
  obtain ⟨⟨n1, n2, n3⟩, ⟨n4, n5⟩, n6, _⟩ := nd2
  have nf : ∀ {F : List Addr}, hd ∉ F → gn ∉ F → Dj F [hd, gn] := fun a c x hx q => by
    simp only [List.mem_cons, List.not_mem_nil, or_false] at q
    rcases q with e | e
    · exact a (e ▸ hx)
    · exact c (e ▸ hx)
  have h1 := na hd (by simp)
  have h2 := na gn (by simp)
  exact ⟨b.at hw (by simp [n2, n3]), hL.but b (by simp [n4, n5]), hJ.but b (nf h1.1 h2.1), hD.but b (nf h1.2 h2.2), ⟨kh, e1, e2⟩, ⟨kg, e3, e4⟩, dj, nd, na, p⟩
/-- a commit's end: the journal and the disk, then what is held and what is gone -/
theorem W27.com {H3 : Hp} {kh : List (L2.Key × V)} {kg : List (L2.Key × V)} (z : W27 K CDisk CLayout CJ CC H wa L d j hd gn fj fd t s h m M D held gone) (b : But (fj ++ fd) H H3) (hf : ∀ x ∈ fj', x ∈ fj ∨ H x = none) (hD : DiskAt K CDisk H3 d fd (1 + s + h) m' D') (hJ : JAt K CJ CC H3 j L d none M' fj')
    (b4 : But [hd, gn] H3 H') (e1 : H' hd = some (.dK kh)) (e2 : KvD K [] H' kh held') (e3 : H' gn = some (.dK kg)) (e4 : kg.map (·.1) = gone'.map Sum.inl) (p : P27 s h M' D' held' gone') :
    W27 K CDisk CLayout CJ CC H' wa L d j hd gn fj' fd t s h m' M' D' held' gone' := by
  obtain ⟨hw, hL, hJ0, hD0, ⟨kh0, h1, h2⟩, ⟨kg0, g1, g2⟩, dj, nd, na, p0⟩ := z
  have nn : ∀ x ∈ [wa, L, hd, gn], x ∉ fj ++ fd := fun x hx q => (List.mem_append.mp q).elim (na x hx).1 (na x hx).2
  have lv : ∀ x ∈ [wa, L, hd, gn], H x ≠ none := fun x hx => by
    simp only [List.mem_cons, List.not_mem_nil, or_false] at hx
    rcases hx with e | e | e | e
    · rw [e]; exact live_of hw
    · rw [e]; exact hL.ex.elim fun _ h => live_of h
    · rw [e]; exact live_of h1
    · rw [e]; exact live_of g1
  have na' : ∀ x ∈ [wa, L, hd, gn], x ∉ fj' ∧ x ∉ fd := fun x hx => ⟨fun q => (hf x q).elim (na x hx).1 fun h => lv x hx h, (na x hx).2⟩
  have nd2 := nd
  simp only [List.nodup_cons, List.mem_cons, List.not_mem_nil, or_false, not_or] at nd2
  obtain ⟨⟨n1, n2, n3⟩, ⟨n4, n5⟩, n6, _⟩ := nd2
  have nf : ∀ {F : List Addr}, hd ∉ F → gn ∉ F → Dj F [hd, gn] := fun a c x hx q => by
    simp only [List.mem_cons, List.not_mem_nil, or_false] at q
    rcases q with e | e
    · exact a (e ▸ hx)
    · exact c (e ▸ hx)
  have q1 := na' hd (by simp)
  have q2 := na' gn (by simp)
  exact ⟨b4.at (b.at hw (nn _ (by simp))) (by simp [n2, n3]), (hL.but b (nn _ (by simp))).but b4 (by simp [n4, n5]), hJ.but b4 (nf q1.1 q2.1), hD.but b4 (nf q1.2 q2.2), ⟨kh, e1, e2⟩, ⟨kg, e3, e4⟩, fun x hx q => (hf x hx).elim (fun h => dj x h q) fun h => hD0.live x q h, nd, na', p⟩
end
def spLCm (CDisk CLayout CJ CC : Addr) (K : PySem.W.Frag) : Sp := fun vs H Q _ => ∃ (wa L d j hd gn : Addr) (fj fd : List Addr) (t : Int) (s h m : Nat) (M : JM) (D : DM) (held : List (Int × PyData)) (gone : List Int), vs = [.ref wa] ∧ W27 K CDisk CLayout CJ CC H wa L d j hd gn fj fd t s h m M D held gone ∧ m ≤ 800000 ∧ 24 ≤ s ∧ h ≤ 12 ∧
  ∀ fj' m' M' D' held' gone' H', But (hd :: gn :: (fj ++ fd)) H H' → (∀ x ∈ fj', x ∈ fj ∨ H x = none) → m' ≤ m + 3000 → W27 K CDisk CLayout CJ CC H' wa L d j hd gn fj' fd t s h m' M' D' held' gone' → Q (.bl true) H'
abbrev s_law_commit : Stmt := top 44
abbrev N_law_commit : List Str := ["_law_w", "_law_copies", "_law_revokes", "_law_k", "_law_home", "_law_value"]
theorem sc_law_commit : FnScope N_law_commit ["_law_w"] (defScope s_law_commit) :=
  ⟨rfl, rfl, rfl, by decide +kernel, rfl, by decide +kernel, by decide +kernel⟩

theorem ok_commit {f : Addr} {fd : FuncData} (F : Fun K "_law_commit" "_law_commit" s_law_commit f fd) (B : Bl mg) (gC : mg "NoSpace" = some (.ref CNS)) (eX : PySem.W.exmOne K (.ref CNS) (.ref CNS) = some true) (M_Journal_running : MetW P w K mg base 1 CJ "running" (spJRun K CJ CC) [])
    (M_Journal_commit : MetX P w K mg base (L2N.CX P w) 14 CJ "commit" (spCommit CLayout CDisk CNS K CJ CC)) (C_law_checkpoint_right : ClW P w K mg base 14 "_law_checkpoint_right" (spCR CDisk CLayout CJ CC K)) :
    FnOk P w K mg base CX0 20 f fd ["_law_w"] (spLCm CDisk CLayout CJ CC K) := by
  refine F.ok sc_law_commit (fun vs H Q E h => ?_) (fun cdv A outer s H vs Q E hr h => ?_)
  · obtain ⟨_, _, _, _, _, _, _, _, _, _, _, _, _, _, _, _, rfl, _⟩ := h
    rfl
  · obtain ⟨wa, L, d, j, hd, gn, fj, fd, t, sl, ho, m, M, D, held, gone, rfl, z, hm, hs24, hh12, k⟩ := h
    have hu := hu_of hr
    have nd := sc_law_commit.nd
    have hw0 := z.hw
    obtain ⟨lkj, dcj, drj, ckj, efj, jin⟩ := id z.hJ
    obtain ⟨dx, hj0⟩ := jin.h0
    have hcl := z.p.mo.cl
    have hrl := z.p.mo.rl
    refine ⟨_, (pss_cons (ps_asg (pe_mtW0 M_Journal_running (.inl rfl) (L2H.roomH_of hr) (by decide) (pe_dget hu (pv 0) pe_str (fun _ _ => rfl))) (pg_tplW (K := K) (n := 2) (.inl rfl) (pgs_cons (pg_name (i := 1) nd rfl (by first | exact Or.inl rfl | exact Or.inr rfl)) (pgs_cons (pg_name (i := 2) nd rfl (by first | exact Or.inl rfl | exact Or.inr rfl)) pgs_nil))))
      (pss_cons (ps_forW PassesOwn.never (.inl rfl) (pi_range1W rfl B.range (pa_cons pe_int pa_nil)) (pg_name (i := 3) nd rfl (by first | exact Or.inl rfl | exact Or.inr rfl))
      (pss_one (ps_try_warm rfl rfl rfl ⟨rfl, by decide, .inl gC⟩ (fun W pn xe tk po => (pss_cons (ps_if (pt_cmpR op_isNA (pe_mx0 (E := WE W) M_Journal_commit hr (by decide) (fun σ => L2N.passAt tk σ) (pe_dget hu (pv 0) pe_str (fun _ _ => rfl))) pe_non (nomark _)) (pss_one (ps_ret (pe_and (pe_cmpR (op_eqLE hr.units) (pv 1) (pe_lst pa_nil) (nomark _)) (pe_one (pe_cmpR (op_eqLE hr.units) (pv 2) (pe_lst pa_nil) (nomark _)))))) pss_nil)
      (pss_cons (ps_forW po (.inl rfl) (pi_lstW (K := K) (pv 1)) (pg_tplW (K := K) (n := 2) (.inl rfl) (pgs_cons (pg_name (i := 4) nd rfl (by first | exact Or.inl rfl | exact Or.inr rfl)) (pgs_cons (pg_name (i := 5) nd rfl (by first | exact Or.inl rfl | exact Or.inr rfl)) pgs_nil)))
      (pss_cons (ps_dput hu (pe_dget hu (pv 0) pe_str (fun _ _ => rfl)) (pv 4) (pv 5) rfl)
      (pss_one (ps_expr (pe_dpop2 (pe_dget hu (pv 0) pe_str (fun _ _ => rfl)) (pv 4) pe_non ⟨rfl, rfl, rfl, rfl⟩)))))
      (pss_cons (ps_forW po (.inl rfl) (pi_lstW (K := K) (pv 2)) (pg_name (i := 4) nd rfl (by first | exact Or.inl rfl | exact Or.inr rfl))
      (pss_cons (ps_expr (pe_dpop2 (pe_dget hu (pv 0) pe_str (fun _ _ => rfl)) (pv 4) pe_non ⟨rfl, rfl, rfl, rfl⟩))
      (pss_one (ps_dput hu (pe_dget hu (pv 0) pe_str (fun _ _ => rfl)) (pv 4) pe_bl rfl))))
      (pss_one (ps_ret pe_bl)))))) (fun a oe cls d pn hz hf hw => (pss_one (ps_if (pt_not (pt_tru (K := K) (pe_clW C_law_checkpoint_right hw (L2H.roomH_mark hr _) (by decide) (pa_cons (pv 0) pa_nil)))) (pss_one (ps_ret pe_bl)) pss_nil))))))
      (pss_one (ps_ret pe_bl)))), ?_⟩
    repeat walk_at "s"
    refine r_methAt hj0 (by with_unfolding_all rfl) ?_
    repeat walk_at "s"
    refine ⟨j, L, d, none, M, _, rfl, z.hJ, by omega, by omega, fun tt a b xs H1 s1 ht ha hb ha1 hxs hb1 => ?_⟩
    refine g_tup ht rfl ?_
    have z1 := z.same s1
    have hka : a ∉ fj ++ fd := fun q => (List.mem_append.mp q).elim (fun q => z.hJ.live a q ha) fun q => z.hD.live a q ha
    have hkb : b ∉ fj ++ fd := fun q => (List.mem_append.mp q).elim (fun q => z.hJ.live b q hb) fun q => z.hD.live b q hb
    have nlC : noLs ((sortC M.cop).map dWr) = true := noLs_map fun c hc => by
      show (true && (noL c.2 && true)) = true
      rw [(z.p.mo.cv c (sortC_mem hc)).nol]; rfl
    have hkl := z.p.mo.kl
    have hs2 := z.p.mo.s2
    clear hw0 hj0 jin
    repeat walk_at "s"
    refine forR (by omega) (fun i σ H' => ∃ o3 o4 o5 fj1 m1 M1 D1, σ = [some (.ref wa), some (.ref a), some (.ref b), o3, o4, o5] ∧ But (fj ++ fd) H1 H' ∧ (∀ x ∈ fj1, x ∈ fj ∨ H1 x = none) ∧ m1 ≤ m + 35 * i ∧ M1.kept.length + i ≤ 64 ∧ M1.cop = M.cop ∧ M1.rev = M.rev ∧ W27 K CDisk CLayout CJ CC H' wa L d j hd gn fj1 fd t sl ho m1 M1 D1 held gone)
      ⟨_, _, _, fj, m, M, D, rfl, .refl, fun x hx => .inl hx, by omega, by omega, rfl, rfl, z1⟩ ?_ ?_
    · rintro i σ H2 hi ⟨o3, o4, o5, fj1, m1, M1, D1, rfl, b2, hf2, hm1, hk1, ec, er, z2⟩
      have hw2 := z2.hw
      obtain ⟨lkk, dck, drk, ckk, efk, jin⟩ := id z2.hJ
      obtain ⟨dx, hj2⟩ := jin.h0
      have ha2 := b2.at ha1 hka
      have hb2 := b2.at hb1 hkb
      have hxs2 := hxs.nlb (S' := []) nlC b2
      repeat walk_at "s"
      refine r_methAtS hj2 (by with_unfolding_all rfl) ?_
      repeat walk_at "s"
      refine ⟨j, L, d, none, M1, fj1, fd, sl, ho, m1, D1, rfl, z2.hJ, z2.hL, (z2.na L (by simp)).1, (z2.na L (by simp)).2, z2.hD, z2.dj, by omega, z2.p.mo, fun hc H3 s3 => ?_, fun hne hlt dd H3 hdd s3 hdd3 => ?_, fun hne hfit fj3 m3 H3 b3 hf3 hm3 hD3 hJ3 => ?_⟩
      · repeat walk_at "s"
        unfold cmNone at hc
        obtain ⟨g1, g2⟩ := Bool.and_eq_true_iff.mp hc
        have g1' : M.cop = [] := by rw [← ec]; exact List.isEmpty_iff.mp g1
        have g2' : M.rev = [] := by rw [← er]; exact List.isEmpty_iff.mp g2
        have ex : xs = [] := List.length_eq_zero_iff.mp (by rw [hxs.length, List.length_map, sortC_len, g1']; rfl)
        have eb : sortI M.rev = [] := List.length_eq_zero_iff.mp (by rw [sortI_len, g2']; rfl)
        rw [ex] at ha2
        rw [eb] at hb2
        have ha3 := s3 _ _ ha2
        have hb3 := s3 _ _ hb2
        refine r_iteT (decide_eq_true rfl) ?_
        repeat walk_at "s"
        refine r_newL (sz (Nat.le_of_ble_eq_true rfl)) (fun e4 H4 he4 s4 he44 => ?_)
        repeat walk_at "s"
        refine r_eqLE (s4 _ _ ha3) he44 ?_
        repeat walk_at "s"
        refine r_iteT rfl ?_
        repeat walk_at "s"
        refine r_newL (sz (Nat.le_of_ble_eq_true rfl)) (fun e5 H5 he5 s5 he55 => ?_)
        repeat walk_at "s"
        refine r_eqLE (s5 _ _ (s4 _ _ hb3)) he55 ?_
        have s25 : Same H2 H5 := fun b o e => s5 b o (s4 b o (s3 b o e))
        exact k fj1 m1 M1 D1 held gone H5 (((But.of_same s1).trans (b2.trans (But.of_same s25))).sub (fun x hx => by simp only [List.mem_cons]; exact .inr (.inr hx))) (fun x hx => (hf2 x hx).imp id fun h => (But.of_same (S := []) s1).free h) (by omega) (z2.same s25)
      · refine ⟨true, eX, fun _ ax hax => ?_, fun q => by cases q⟩
        have z3 := z2.same s3
        have hkne : M1.kept ≠ [] := fun e => by
          have r24 := recs24 z2.p.mo hh12
          rw [e] at hlt
          have e0 : sumSz ([] : List Kp) = 0 := rfl
          omega
        repeat walk_at "s"
        refine ⟨wa, L, d, j, hd, gn, fj1, fd, t, sl, ho, m1, M1, D1, held, gone, rfl, z3, by omega, fun fj4 H4 b4 hf4 z4 => ?_⟩
        have hl4 := ckM_len hkne
        have b24 : But (fj1 ++ fd) H2 H4 := (But.of_same s3).trans b4
        have b14 : But (fj ++ fd) H1 H4 := bt_but b2 b24 fun x hx => (List.mem_append.mp hx).elim (fun q => (hf2 x q).imp (fun q => List.mem_append_left _ q) id) fun q => .inl (List.mem_append_right _ q)
        have hf14 : ∀ x ∈ fj4, x ∈ fj ∨ H1 x = none := fun x hx => (hf4 x hx).elim (hf2 x) fun q => .inr (b2.free ((But.of_same (S := []) s3).free q))
        repeat walk_at "s"
        exact ⟨_, _, _, fj4, m1 + 35, ckM M1, ckD none sl M1 D1, rfl, b14, hf14, by omega, by omega, ec, er, z4⟩
      · repeat walk_at "s"
        refine r_iteF (decide_eq_false fun e => by cases e) ?_
        repeat walk_at "s"
        have hka1 : ∀ x, H1 x ≠ none → x ∉ fj ++ fd → x ∉ fj1 ++ fd := fun x hl hx q => (List.mem_append.mp q).elim (fun q => (hf2 x q).elim (fun q => hx (List.mem_append_left _ q)) hl) fun q => hx (List.mem_append_right _ q)
        have ha3 := b3.at ha2 (hka1 a (live_of ha1) hka)
        have hb3 := b3.at hb2 (hka1 b (live_of hb1) hkb)
        rw [← er] at hb3
        rw [← ec] at nlC
        have hxs3 : DnAll K [] H3 xs ((sortC M1.cop).map dWr) := by
          rw [← ec] at hxs2
          exact hxs2.nlb (S' := []) nlC b3
        have hxl : xs.length = (sortC M1.cop).length := by rw [hxs3.length, List.length_map]
        obtain ⟨kh, hh2, hkh2⟩ := z2.hh
        obtain ⟨kg, hg2, hkg⟩ := z2.hg
        have na2 : ∀ x ∈ [wa, L, hd, gn], x ∉ fj1 ++ fd := fun x hx q => (List.mem_append.mp q).elim (z2.na x hx).1 (z2.na x hx).2
        have hw3 := b3.at hw2 (na2 wa (by simp))
        have hh3 := b3.at hh2 (na2 hd (by simp))
        have hg3 := b3.at hg2 (na2 gn (by simp))
        have hkh3 : KvD K [] H3 kh held := hkh2.nlb (fun c hc => (z2.p.hv c hc).nol) b3
        have nd2 := z2.nd
        simp only [List.nodup_cons, List.mem_cons, List.not_mem_nil, or_false, not_or] at nd2
        obtain ⟨⟨n1, n2, n3⟩, ⟨n4, n5⟩, n6, _⟩ := nd2
        have hcv : ∀ c ∈ sortC M1.cop, RvOk c.2 := fun c hc => z2.p.mo.cv c (sortC_mem hc)
        have nlH : ∀ (n : Nat), ∀ c ∈ putL ((sortC M1.cop).take n) held, noL c.2 = true := fun n c hc => (putL_mem hc).elim (fun q => (z2.p.hv c q).nol) fun q => (hcv c (List.mem_of_mem_take q)).nol
        obtain ⟨hhl, hgl⟩ := held_len z2.p
        have hcl1 := z2.p.mo.cl
        have hrl1 := z2.p.mo.rl
        have han : a ∉ [hd, gn] := by
          simp only [List.mem_cons, List.not_mem_nil, or_false, not_or]
          exact ⟨fun e => by (rw [e, hh2] at ha2; cases ha2), fun e => by (rw [e, hg2] at ha2; cases ha2)⟩
        have hbn : b ∉ [hd, gn] := by
          simp only [List.mem_cons, List.not_mem_nil, or_false, not_or]
          exact ⟨fun e => by (rw [e, hh2] at hb2; cases hb2), fun e => by (rw [e, hg2] at hb2; cases hb2)⟩
        refine forL (.of ha3) (fun n σ H' => ∃ o4 o5 kh' kg', σ = [some (.ref wa), some (.ref a), some (.ref b), some (.int i), o4, o5] ∧ But [hd, gn] H3 H' ∧ H' hd = some (.dK kh') ∧ KvD K [] H' kh' (putL ((sortC M1.cop).take n) held) ∧ H' gn = some (.dK kg') ∧ kg'.map (·.1) = (popG (((sortC M1.cop).take n).map (·.1)) gone).map Sum.inl)
          ⟨_, _, kh, kg, rfl, .refl, hh3, hkh3, hg3, hkg⟩ ?_ ?_ ?_
        · rintro n σ H4 hn ⟨p4, p5, kh', kg', rfl, b4, hh4, hk4, hg4, hkg4⟩
          exact .of (b4.at ha3 han)
        · rintro n y σ H4 hn ⟨p4, p5, kh', kg', rfl, b4, hh4, hk4, hg4, hkg4⟩
          have hnl := (List.getElem?_eq_some_iff.mp hn).1
          obtain ⟨c, hc⟩ : ∃ c, (sortC M1.cop)[n]? = some c := ⟨_, List.getElem?_eq_getElem (by omega)⟩
          have rvc := hcv c (List.mem_of_getElem? hc)
          obtain ⟨y', hy', hyd⟩ := (hxs3.nlb (S' := []) nlC b4).getD (i := n) (d := dWr c) (by rw [List.getElem?_map, hc]; rfl)
          rw [hn] at hy'
          cases hy'
          obtain ⟨q, us, rfl, hq, hus⟩ := hyd.tup_inv
          cases hus with
          | cons hx1 hr1 =>
          cases hx1 with
          | int =>
          cases hr1 with
          | cons hv1 hr2 =>
          cases hr2 with
          | nil =>
          have hw4 := b4.at hw3 (by simp [n2, n3])
          have hkl4 : kh'.length ≤ 44 := by
            have := putL_len (cs := (sortC M1.cop).take n) (ph := held)
            rw [List.length_take, sortC_len] at this
            rw [hk4.length]; omega
          refine g_tup hq rfl ?_
          repeat walk_at "s"
          refine r_dputD hh4 (sz (by omega)) (fun H5 b5 hh5 => ?_)
          repeat walk_at "s"
          have ngh : gn ≠ hd := Ne.symm n6
          have hg5 := b5.at hg4 (by simpa using ngh)
          have hw5 := b5.at hw4 (by simpa using n2)
          have e1 : putL ((sortC M1.cop).take (n + 1)) held = putD (putL ((sortC M1.cop).take n) held) c.1 c.2 := foldl_takeG hc
          have e2 : popG (((sortC M1.cop).take (n + 1)).map (·.1)) gone = (popG (((sortC M1.cop).take n).map (·.1)) gone).filter fun y => decide (y ≠ c.1) := by
            rw [List.map_take, List.map_take]
            exact foldl_takeG (by rw [List.getElem?_map, hc]; rfl)
          have hk5 : KvD K [] H5 (putK kh' (.inl c.1) _) (putD (putL ((sortC M1.cop).take n) held) c.1 c.2) := (hk4.nlb (nlH n) b5).put (hv1.nlb rvc.nol b5)
          have b45 : But [hd, gn] H3 H5 := b4.trans (b5.sub (by simp))
          refine ⟨kg', .inl c.1, hg5, rfl, fun v' hv' => ?_, fun hv' => ?_⟩
          · obtain ⟨H6, e6, b6, hg6⟩ := upd_exK (o' := .dK (dropK kg' (.inl c.1))) hg5
            rw [e6]
            refine ⟨_, _, _, _, rfl, b45.trans (b6.sub (by simp)), b6.at hh5 (by simpa using n6), ?_, hg6, ?_⟩
            · rw [e1]
              refine hk5.nlb (fun c' hc' => ?_) b6
              have := nlH (n + 1) c'
              rw [e1] at this
              exact this hc'
            · rw [e2]; exact keys_drop hkg4
          · refine ⟨_, _, _, _, rfl, b45, hh5, by rw [e1]; exact hk5, hg5, ?_⟩
            rw [e2, ← drop_none hv']
            exact keys_drop hkg4
        rintro σ H4 ⟨p4, p5, kh1, kg1, rfl, b4, hh4, hk4, hg4, hkg4⟩
        rw [hxl, List.take_length] at hk4 hkg4
        have nlP : ∀ c ∈ putL (sortC M1.cop) held, noL c.2 = true := fun c hc => (putL_mem hc).elim (fun q => (z2.p.hv c q).nol) fun q => (hcv c q).nol
        have hb4 := b4.at hb3 hbn
        repeat walk_at "s"
        refine forL (.of hb4) (fun n σ H' => ∃ o4 o5 kh' kg', σ = [some (.ref wa), some (.ref a), some (.ref b), some (.int i), o4, o5] ∧ But [hd, gn] H3 H' ∧ H' hd = some (.dK kh') ∧ KvD K [] H' kh' (dropL ((sortI M1.rev).take n) (putL (sortC M1.cop) held)) ∧ H' gn = some (.dK kg') ∧ kg'.map (·.1) = (addG ((sortI M1.rev).take n) (popG ((sortC M1.cop).map (·.1)) gone)).map Sum.inl)
          ⟨_, _, kh1, kg1, rfl, b4, hh4, hk4, hg4, hkg4⟩ ?_ ?_ ?_
        · rintro n σ H5 hn ⟨p4, p5, kh', kg', rfl, b5, hh5, hk5, hg5, hkg5⟩
          exact .of (b5.at hb3 hbn)
        · rintro n y σ H5 hn ⟨p4, p5, kh', kg', rfl, b5, hh5, hk5, hg5, hkg5⟩
          obtain ⟨x, hx, rfl⟩ := map_getG hn
          have hw5 := b5.at hw3 (by simp [n2, n3])
          have hkl5 : kg'.length ≤ 44 := by
            have q1 := addG_len (rs := (sortI M1.rev).take n) (g := popG ((sortC M1.cop).map (·.1)) gone)
            have q2 := popG_len (cs := (sortC M1.cop).map (·.1)) (g := gone)
            rw [List.length_take, sortI_len] at q1
            rw [keys_len hkg5]; omega
          have e1 : dropL ((sortI M1.rev).take (n + 1)) (putL (sortC M1.cop) held) = dropD (dropL ((sortI M1.rev).take n) (putL (sortC M1.cop) held)) x := foldl_takeG hx
          have e2 : addG ((sortI M1.rev).take (n + 1)) (popG ((sortC M1.cop).map (·.1)) gone) = (if x ∈ addG ((sortI M1.rev).take n) (popG ((sortC M1.cop).map (·.1)) gone) then addG ((sortI M1.rev).take n) (popG ((sortC M1.cop).map (·.1)) gone) else addG ((sortI M1.rev).take n) (popG ((sortC M1.cop).map (·.1)) gone) ++ [x]) := foldl_takeG hx
          have nlD : ∀ (ks : List Int), ∀ c ∈ dropL ks (putL (sortC M1.cop) held), noL c.2 = true := fun ks c hc => nlP c (dropL_sub.subset hc)
          have fin : ∀ (H6 : Hp) (kh6 : List (L2.Key × V)), But [hd] H5 H6 → H6 hd = some (.dK kh6) → KvD K [] H6 kh6 (dropL ((sortI M1.rev).take (n + 1)) (putL (sortC M1.cop) held)) → H6 gn = some (.dK kg') := fun H6 kh6 b6 _ _ => b6.at hg5 (by simpa using Ne.symm n6)
          repeat walk_at "s"
          refine ⟨kh', .inl x, hh5, rfl, fun v' hv' => ?_, fun hv' => ?_⟩
          · obtain ⟨H6, e6, b6, hh6⟩ := upd_exK (o' := .dK (dropK kh' (.inl x))) hh5
            rw [e6]
            have hk6 : KvD K [] H6 (dropK kh' (.inl x)) (dropL ((sortI M1.rev).take (n + 1)) (putL (sortC M1.cop) held)) := by
              rw [e1]
              refine hk5.drop.nlb (fun c hc => ?_) b6
              have := nlD ((sortI M1.rev).take (n + 1)) c
              rw [e1] at this
              exact this hc
            have hg6 := fin H6 _ b6 hh6 hk6
            have hw6 := b6.at hw5 (by simpa using n2)
            repeat walk_at "s"
            refine r_dputD hg6 (sz (by omega)) (fun H7 b7 hg7 => ?_)
            refine ⟨_, _, _, _, rfl, b5.trans ((b6.sub (by simp)).trans (b7.sub (by simp))), b7.at hh6 (by simpa using n6), hk6.nlb (nlD _) b7, hg7, ?_⟩
            rw [e2]; exact keys_put hkg5
          · have hk6 : KvD K [] H5 kh' (dropL ((sortI M1.rev).take (n + 1)) (putL (sortC M1.cop) held)) := by
              rw [e1, ← drop_none hv']
              exact hk5.drop
            repeat walk_at "s"
            refine r_dputD hg5 (sz (by omega)) (fun H7 b7 hg7 => ?_)
            refine ⟨_, _, _, _, rfl, b5.trans (b7.sub (by simp)), b7.at hh5 (by simpa using n6), hk6.nlb (nlD _) b7, hg7, ?_⟩
            rw [e2]; exact keys_put hkg5
        rintro σ H5 ⟨p4, p5, kh2, kg2, rfl, b5, hh5, hk5, hg5, hkg5⟩
        rw [List.length_map, List.take_length] at hk5 hkg5
        repeat walk_at "s"
        have pN := z2.p.commit z2.hD.ok hfit
        obtain ⟨okD, _⟩ := cm_all z2.p.mo z2.hD.ok
        have hD3' : DiskAt K CDisk H3 d fd (1 + sl + ho) (m1 + 83) (cmD none sl M1 D1) := ⟨okD, hD3.ex⟩
        have zN := z2.com b3 hf3 hD3' hJ3 b5 hh5 hk5 hg5 hkg5 pN
        have b15 : But (hd :: gn :: (fj ++ fd)) H1 H5 := bt_but (b2.sub (fun x hx => by simp only [List.mem_cons]; exact .inr (.inr hx))) (bt_but (b3.sub (T := hd :: gn :: (fj1 ++ fd)) (fun x hx => by simp only [List.mem_cons]; exact .inr (.inr hx))) b5 (fun x hx => .inl (by simp only [List.mem_cons, List.not_mem_nil, or_false] at hx ⊢; exact hx.elim .inl fun e => .inr (.inl e)))) fun x hx => by
          simp only [List.mem_cons, List.mem_append] at hx ⊢
          rcases hx with e | e | e | e
          · exact .inl (.inl e)
          · exact .inl (.inr (.inl e))
          · exact (hf2 x e).imp (fun q => .inr (.inr (.inl q))) id
          · exact .inl (.inr (.inr (.inr e)))
        exact k fj3 (m1 + 83) _ _ _ _ H5 ((But.of_same s1).trans b15) (fun x hx => (hf3 x hx).elim (fun q => (hf2 x q).imp id fun h => (But.of_same (S := []) s1).free h) fun q => .inr ((But.of_same (S := []) s1).free (b2.free q))) (by omega) zN
    · rintro σ H2 ⟨o3, o4, o5, fj1, m1, M1, D1, rfl, b2, hf2, hm1, hk1, ec, er, z2⟩
      have : (70 : Int).toNat = 70 := rfl
      omega
end
end L27

open PySem L2 PyProof.Rows J


namespace L27
local macro_rules | `(tactic| walk_at "mv") => `(tactic| with_reducible first
  | exact (wv_layout ..) | exact (wv_disk ..) | exact (wv_journal ..) | exact (wv_held ..) | exact (wv_gone ..) | exact (wv_turn ..))
/-! ### a step -/
theorem v_blk (n : Int) : blockB (.tuple [.str "v", .int n]) = true := by
  unfold blockB
  have e3 : (PyData.tuple [.str "v", .int n]).canLay0 = (PyData.strOk "v" && true) := rfl
  rw [e3, show PyData.strOk "v" = true by decide +kernel]; rfl
theorem v_rv (n : Int) : RvOk (.tuple [.str "v", .int n]) := ⟨v_blk n, Nat.le_of_ble_eq_true rfl⟩
section
variable {P : Program} {w : World} {K : PySem.W.Frag} {mg : Str → Option Value} {base : Heap} {CDisk CLayout CJ CC CNS : Addr} {H H' : Hp}
section
variable {wa L d j hd gn p : Addr} {fj fd fj' T : List Addr} {t t' n : Int} {s h m m' : Nat} {M M' : JM} {D D' : DM} {held held' : List (Int × PyData)} {gone gone' : List Int}
theorem W27.but (z : W27 K CDisk CLayout CJ CC H wa L d j hd gn fj fd t s h m M D held gone) (b : But T H H') (n : ∀ x ∈ T, x ∉ [wa, L, hd, gn] ∧ x ∉ fj ∧ x ∉ fd) : W27 K CDisk CLayout CJ CC H' wa L d j hd gn fj fd t s h m M D held gone := by
  obtain ⟨hw, hL, hJ, hD, ⟨kh, h1, h2⟩, ⟨kg, g1, g2⟩, dj, nd, na, p⟩ := z
  exact ⟨b.at hw (fun q => (n _ q).1 (by simp)), hL.but b (fun q => (n _ q).1 (by simp)), hJ.but b (fun x hx q => (n x q).2.1 hx), hD.but b (fun x hx q => (n x q).2.2 hx), ⟨kh, b.at h1 (fun q => (n _ q).1 (by simp)), h2.nlb (fun c hc => (p.hv c hc).nol) b⟩, ⟨kg, b.at g1 (fun q => (n _ q).1 (by simp)), g2⟩, dj, nd, na, p⟩
theorem W27.turn (z : W27 K CDisk CLayout CJ CC H wa L d j hd gn fj fd t s h m M D held gone) (b : But [wa] H H') (e : H' wa = some (.dK (wF (.ref L) (.ref d) (.ref j) (.ref hd) (.ref gn) (.int t')))) : W27 K CDisk CLayout CJ CC H' wa L d j hd gn fj fd t' s h m M D held gone := by
  obtain ⟨hw, hL, hJ, hD, ⟨kh, h1, h2⟩, ⟨kg, g1, g2⟩, dj, nd, na, p⟩ := z
  have nd2 := nd
  simp only [List.nodup_cons, List.mem_cons, List.not_mem_nil, or_false, not_or] at nd2
  obtain ⟨⟨n1, n2, n3⟩, _⟩ := nd2
  have nw := na wa (by simp)
  exact ⟨e, hL.but b (by simpa using Ne.symm n1), hJ.but b (fun x hx q => nw.1 ((List.mem_singleton.mp q) ▸ hx)), hD.but b (fun x hx q => nw.2 ((List.mem_singleton.mp q) ▸ hx)), ⟨kh, b.at h1 (by simpa using Ne.symm n2), h2.nlb (fun c hc => (p.hv c hc).nol) b⟩, ⟨kg, b.at g1 (by simpa using Ne.symm n3), g2⟩, dj, nd, na, p⟩
/-- the journal's own lists move on -/
theorem W27.run (z : W27 K CDisk CLayout CJ CC H wa L d j hd gn fj fd t s h m M D held gone) (b : But fj H H') (hJ : JAt K CJ CC H' j L d none M' fj) (p : P27 s h M' D held gone) : W27 K CDisk CLayout CJ CC H' wa L d j hd gn fj fd t s h m M' D held gone := by
  obtain ⟨hw, hL, hJ0, hD, ⟨kh, h1, h2⟩, ⟨kg, g1, g2⟩, dj, nd, na, p0⟩ := z
  exact ⟨b.at hw (na _ (by simp)).1, hL.but b (na _ (by simp)).1, hJ, hD.but b (fun x hx q => dj x q hx), ⟨kh, b.at h1 (na _ (by simp)).1, h2.nlb (fun c hc => (p.hv c hc).nol) b⟩, ⟨kg, b.at g1 (na _ (by simp)).1, g2⟩, dj, nd, na, p⟩
/-- the addresses of the law's record -/
def wS (wa L hd gn : Addr) (fj fd : List Addr) : List Addr := wa :: hd :: gn :: (fj ++ fd)
/-- the source of draws beside it -/
structure S27 (K : PySem.W.Frag) (CDisk CLayout CJ CC : Addr) (H : Hp) (p wa L d j hd gn : Addr) (fj fd : List Addr) (n t : Int) (s h m : Nat) (M : JM) (D : DM) (held : List (Int × PyData)) (gone : List Int) : Prop where
  src : SrcAt H p n
  z : W27 K CDisk CLayout CJ CC H wa L d j hd gn fj fd t s h m M D held gone
  np : p ∉ [wa, L, hd, gn] ∧ p ∉ fj ∧ p ∉ fd
theorem S27.drawn {n' : Int} (q : S27 K CDisk CLayout CJ CC H p wa L d j hd gn fj fd n t s h m M D held gone) (b : But [p] H H') (hp : SrcAt H' p n') : S27 K CDisk CLayout CJ CC H' p wa L d j hd gn fj fd n' t s h m M D held gone :=
  ⟨hp, q.z.but b (fun x hx => by rw [List.mem_singleton.mp hx]; exact q.np), q.np⟩
theorem S27.same (q : S27 K CDisk CLayout CJ CC H p wa L d j hd gn fj fd n t s h m M D held gone) (b : Same H H') : S27 K CDisk CLayout CJ CC H' p wa L d j hd gn fj fd n t s h m M D held gone := ⟨q.src.same b, q.z.same b, q.np⟩
theorem S27.live (q : S27 K CDisk CLayout CJ CC H p wa L d j hd gn fj fd n t s h m M D held gone) : Live (p :: wS wa L hd gn fj fd) H := fun x hx => by
  simp only [wS, List.mem_cons, List.mem_append] at hx
  rcases hx with e | e | e | e | e | e
  · rw [e]; exact q.src.live
  · rw [e]; exact live_of q.z.hw
  · rw [e]; exact q.z.hh.elim fun _ h => live_of h.1
  · rw [e]; exact q.z.hg.elim fun _ h => live_of h.1
  · exact q.z.hJ.live x e
  · exact q.z.hD.live x e
theorem S27.tight (q : S27 K CDisk CLayout CJ CC H p wa L d j hd gn fj fd n t s h m M D held gone) (l : D.deeds.length ≤ m') : S27 K CDisk CLayout CJ CC H p wa L d j hd gn fj fd n t s h m' M D held gone := by
  obtain ⟨src, ⟨hw, hL, hJ, hD, hh, hg, dj, nd, na, p⟩, np⟩ := q
  exact ⟨src, ⟨hw, hL, hJ, ⟨DOk.fit hD.ok l, hD.ex⟩, hh, hg, dj, nd, na, p⟩, np⟩
/-- all that is behind a part of a step -/
theorem S27.on (q : S27 K CDisk CLayout CJ CC H p wa L d j hd gn fj fd n t s h m M D held gone) (b : But (wS wa L hd gn fj fd) H H') (hf : ∀ x ∈ fj', x ∈ fj ∨ H x = none) (z : W27 K CDisk CLayout CJ CC H' wa L d j hd gn fj' fd t' s h m' M' D' held' gone') :
    S27 K CDisk CLayout CJ CC H' p wa L d j hd gn fj' fd n t' s h m' M' D' held' gone' := by
  obtain ⟨a, b1, c⟩ := q.np
  refine ⟨q.src.but b ?_, z, a, fun hx => (hf p hx).elim b1 fun h => q.src.live h, c⟩
  simp only [wS, List.mem_cons, List.mem_append, List.not_mem_nil, or_false, not_or] at a ⊢
  exact ⟨a.1, a.2.2.1, a.2.2.2, b1, c⟩
end
abbrev s_Layout_homes : Stmt := inClass (top 22) 2
abbrev N_Layout_homes : List Str := ["self"]
theorem sc_Layout_homes : FnScope N_Layout_homes ["self"] (defScope s_Layout_homes) :=
  ⟨rfl, rfl, rfl, by decide +kernel, rfl, by decide +kernel, by decide +kernel⟩

theorem ok_Layout_homes {f : Addr} {fd : FuncData} (F : Fun K "homes" "Layout.homes" s_Layout_homes f fd) (T : TLay K CLayout) :
    FnW P w K mg base 1 f fd ["self"] (spLayI CLayout fun _ h => h) := by
  refine okW F sc_Layout_homes (fun vs H Q E h => ?_) (fun cdv A outer s H vs Q E cc pn hw hr h => ?_)
  · obtain ⟨_, _, _, rfl, _⟩ := h
    rfl
  · obtain ⟨L, sl, ho, rfl, ⟨h1, h2, h3, h4, dx, hL⟩, k⟩ := h
    have nd := sc_Layout_homes.nd
    obtain ⟨cl, n1, n2⟩ := T
    refine ⟨_, (pss_one (ps_ret (pe_fldA (K := K) (pv 0)))), ?_⟩
    repeat walk_at "s"
    exact k
def spStep (CDisk CLayout CJ CC : Addr) (K : PySem.W.Frag) : Sp := fun vs H Q _ => ∃ (p wa L d j hd gn : Addr) (fj fd : List Addr) (n t : Int) (s h m : Nat) (M : JM) (D : DM) (held : List (Int × PyData)) (gone : List Int), vs = [.ref p, .ref wa] ∧ S27 K CDisk CLayout CJ CC H p wa L d j hd gn fj fd n t s h m M D held gone ∧ n ≤ 1000000 ∧ m ≤ 800000 ∧ 24 ≤ s ∧ 4 ≤ h ∧ h ≤ 12 ∧
  ∀ fj' t' m' M' D' held' gone' H', But (p :: wS wa L hd gn fj fd) H H' → (∀ x ∈ fj', x ∈ fj ∨ H x = none) → m' ≤ m + 3000 → S27 K CDisk CLayout CJ CC H' p wa L d j hd gn fj' fd (n + 1 + 1) t' s h m' M' D' held' gone' → Q (.bl true) H'
abbrev s_law_step : Stmt := top 45
abbrev N_law_step : List Str := ["_law_source_here", "_law_w", "_law_way", "_law_home"]
theorem sc_law_step : FnScope N_law_step ["_law_source_here", "_law_w"] (defScope s_law_step) :=
  ⟨rfl, rfl, rfl, by decide +kernel, rfl, by decide +kernel, by decide +kernel⟩

theorem ok_step {f : Addr} {fd : FuncData} (F : Fun K "_law_step" "_law_step" s_law_step f fd) (C_law_draw : Cl P w K mg base CX0 1 "_law_draw" spDraw) (M_Layout_homes : C8.Met P w K mg base 1 CLayout "homes" (spLayI CLayout fun _ h => h) [])
    (M_Journal_log : C8.Met P w K mg base 12 CJ "log" (spJLog K CLayout CJ CC) []) (M_Journal_value : C8.Met P w K mg base 5 CJ "value" (spJVal CDisk CLayout K CJ CC) []) (M_Journal_revoke : C8.Met P w K mg base 4 CJ "revoke" (spJRev K CLayout CJ CC) [])
    (C_law_commit : Cl P w K mg base CX0 20 "_law_commit" (spLCm CDisk CLayout CJ CC K)) (C_law_checkpoint_right : Cl P w K mg base CX0 14 "_law_checkpoint_right" (spCR CDisk CLayout CJ CC K)) :
    FnOk P w K mg base CX0 21 f fd ["_law_source_here", "_law_w"] (spStep CDisk CLayout CJ CC K) := by
  refine F.ok sc_law_step (fun vs H Q E h => ?_) (fun cdv A outer s H vs Q E hr h => ?_)
  · obtain ⟨_, _, _, _, _, _, _, _, _, _, _, _, _, _, _, _, _, _, rfl, _⟩ := h
    rfl
  · obtain ⟨p, wa, L, d, j, hd, gn, fj, fd, n, t, sl, ho, m, M, D, held, gone, rfl, q, hn, hm, hs24, hh4, hh12, k⟩ := h
    have hu := hu_of hr
    have nd := sc_law_step.nd
    refine ⟨_, (pss_cons (ps_set (i := 2) nd rfl (by first | exact Or.inl rfl | exact Or.inr rfl) (pe_cl (E := fun _ => E0) C_law_draw hr (by decide) pass00 (pa_cons (pv 0) (pa_cons pe_int pa_nil))))
      (pss_cons (ps_set (i := 3) nd rfl (by first | exact Or.inl rfl | exact Or.inr rfl) (pe_cl (E := fun _ => E0) C_law_draw hr (by decide) pass00 (pa_cons (pv 0) (pa_cons (C8.pe_mt0 M_Layout_homes hr (by decide) (pe_dget hu (pv 1) pe_str (fun _ _ => rfl))) pa_nil))))
      (pss_cons (ps_if (pt_cmpR op_ltA (pv 2) pe_int (nomark _)) (pss_cons (ps_dput hu (pv 1) pe_str (pe_op (op_addA (K := K)) (pe_dget hu (pv 1) pe_str (fun _ _ => rfl)) pe_int) rfl)
      (pss_cons (ps_expr (C8.pe_mt M_Journal_log hr (by decide) (pe_dget hu (pv 1) pe_str (fun _ _ => rfl)) (pa_cons (pv 3) (pa_cons (pe_tup (pa_cons pe_str (pa_cons (pe_dget hu (pv 1) pe_str (fun _ _ => rfl)) pa_nil))) pa_nil))))
      (pss_one (ps_ret (pe_cmpR (op_eqA (K := K) hr.units) (C8.pe_mt M_Journal_value hr (by decide) (pe_dget hu (pv 1) pe_str (fun _ _ => rfl)) (pa_cons (pv 3) pa_nil)) (pe_tup (pa_cons pe_str (pa_cons (pe_dget hu (pv 1) pe_str (fun _ _ => rfl)) pa_nil))) (nomark _)))))) pss_nil)
      (pss_cons (ps_if (pt_cmpR (op_eqA (K := K) hr.units) (pv 2) pe_int (nomark _)) (pss_cons (ps_expr (C8.pe_mt M_Journal_revoke hr (by decide) (pe_dget hu (pv 1) pe_str (fun _ _ => rfl)) (pa_cons (pv 3) pa_nil)))
      (pss_one (ps_ret pe_bl))) pss_nil)
      (pss_cons (ps_if (pt_cmpR op_ltA (pv 2) pe_int (nomark _)) (pss_one (ps_ret (pe_cl (E := fun _ => E0) C_law_commit hr (by decide) pass00 (pa_cons (pv 1) pa_nil)))) pss_nil)
      (pss_one (ps_ret (pe_cl (E := fun _ => E0) C_law_checkpoint_right hr (by decide) pass00 (pa_cons (pv 1) pa_nil))))))))), ?_⟩
    repeat walk_at "s"
    refine ⟨p, n, 9, rfl, q.src, by omega, by decide, by decide, fun u0 H1 hu0 hu1 b1 hp1 => ?_⟩
    have q1 := q.drawn b1 hp1
    have hw1 := q1.z.hw
    obtain ⟨dl, hLx⟩ := q1.z.hL.ex
    repeat walk_at "s"
    refine r_methAt hLx (by with_unfolding_all rfl) ?_
    repeat walk_at "s"
    refine ⟨L, sl, ho, rfl, q1.z.hL, ?_⟩
    repeat walk_at "s"
    refine ⟨p, _, (ho : Int), rfl, q1.src, by omega, by omega, by omega, fun hm0 H2 hx0 hx1 b2 hp2 => ?_⟩
    have q2 := q1.drawn b2 hp2
    have hw2 := q2.z.hw
    have b02 : But (p :: wS wa L hd gn fj fd) H H2 := (b1.trans b2).sub (by simp)
    have hm0' : hm0 < ho := by omega
    have nwp : wa ≠ p := fun e => q.np.1 (by rw [← e]; simp)
    obtain ⟨_, _, _, _, efj, jin⟩ := id q2.z.hJ
    obtain ⟨dx, hj2⟩ := jin.h0
    have hcl := q2.z.p.mo.cl
    have hrl := q2.z.p.mo.rl
    have subJ : ∀ x ∈ fj, x ∈ wS wa L hd gn fj fd := fun x hx => by simp only [wS, List.mem_cons, List.mem_append]; exact .inr (.inr (.inr (.inl hx)))
    have subW : ∀ x ∈ wS wa L hd gn fj fd, x ∈ p :: wS wa L hd gn fj fd := fun x hx => List.mem_cons_of_mem _ hx
    have hf0 : ∀ {Ha : Hp} {fa : List Addr}, But (p :: wS wa L hd gn fj fd) H Ha → (∀ x ∈ fa, x ∈ fj ∨ Ha x = none) → ∀ x ∈ fa, x ∈ fj ∨ H x = none := fun b hf x hx => (hf x hx).imp id fun e => b.free e
    repeat walk_at "s"
    by_cases hw4 : u0 < 4
    · refine r_iteT (decide_eq_true hw4) ?_
      repeat walk_at "s"
      refine r_dputS hw2 (sz (Nat.le_of_ble_eq_true rfl)) (wp_turn ..) (fun H3 b3 hw3 => ?_)
      have z3 := q2.z.turn b3 hw3
      have hj3 := b3.at hj2 (fun e => (q2.z.na wa (by simp)).1 (by rw [← List.mem_singleton.mp e, efj]; simp [jAll]))
      repeat walk_at "s"
      refine r_methAt hj3 (by with_unfolding_all rfl) ?_
      repeat walk_at "s"
      refine r_newT (sz (Nat.le_of_ble_eq_true rfl)) (fun v4 H4 hv4 s4 hv44 => ?_)
      have z4 := z3.same s4
      repeat walk_at "s"
      refine ⟨j, L, d, none, M, fj, sl, ho, hm0, .ref v4, .tuple [.str "v", .int (t + 1)], rfl, z4.hJ, z4.hL, hx0, hm0', .tup (.of hv44) (.cons (.str _) (.one (.int _))), v_rv _, by omega, fun H5 b5 hJ5 => ?_⟩
      have z5 := z4.run b5 hJ5 (z4.p.log hx0 hm0' (v_rv _))
      have hw5 := z5.hw
      obtain ⟨_, _, _, _, efj5, jin5⟩ := id z5.hJ
      obtain ⟨dx5, hj5⟩ := jin5.h0
      repeat walk_at "s"
      refine r_methAt hj5 (by with_unfolding_all rfl) ?_
      repeat walk_at "s"
      refine ⟨j, L, d, none, _, fj, fd, sl, ho, m, D, hm0, rfl, z5.hJ, z5.hL, z5.hD, z5.p.mo, hx0, hm0', fun v hv => ?_⟩
      repeat walk_at "s"
      refine r_newT (sz (Nat.le_of_ble_eq_true rfl)) (fun v6 H6 hv6 s6 hv66 => ?_)
      have z6 := z5.same s6
      have ev : valJ sl (logM none hm0 (.tuple [.str "v", .int (t + 1)]) M) D hm0 = .tuple [.str "v", .int (t + 1)] := by
        unfold valJ
        have : getD' (logM none hm0 (.tuple [.str "v", .int (t + 1)]) M).cop hm0 = some (.tuple [.str "v", .int (t + 1)]) := by
          show getD' (putD M.cop hm0 _) hm0 = _
          rw [getD_put, if_pos rfl]
        rw [this]
      rw [ev] at hv
      repeat walk_at "s"
      refine J.r_eqSh (hv.same s6).dp (Dn.tup (S := []) (.of hv66) (.cons (.str _) (.one (.int _)))).dp (J.blk_sh (v_blk _)) (by decide) ?_
      repeat walk_at "s"
      have b26 : But (wS wa L hd gn fj fd) H2 H6 := (b3.sub (fun x hx => by rw [List.mem_singleton.mp hx]; simp [wS])).trans ((But.of_same s4).trans ((b5.sub subJ).trans (But.of_same s6)))
      exact k fj (t + 1) m _ D held gone H6 (b02.trans (b26.sub subW)) (fun x hx => .inl hx) (by omega) (q2.on b26 (fun x hx => .inl hx) z6)
    · refine r_iteF (decide_eq_false hw4) ?_
      repeat walk_at "s"
      by_cases he4 : u0 = 4
      · refine r_iteT (decide_eq_true he4) ?_
        repeat walk_at "s"
        refine r_methAt hj2 (by with_unfolding_all rfl) ?_
        repeat walk_at "s"
        refine ⟨j, L, d, none, M, fj, sl, ho, hm0, rfl, q2.z.hJ, q2.z.hL, hx0, hm0', by omega, fun H5 b5 hJ5 => ?_⟩
        have z5 := q2.z.run b5 hJ5 (q2.z.p.revoke hx0 hm0')
        repeat walk_at "s"
        exact k fj t m _ D held gone H5 (b02.trans ((b5.sub subJ).sub subW)) (fun x hx => .inl hx) (by omega) (q2.on (b5.sub subJ) (fun x hx => .inl hx) z5)
      · refine r_iteF (decide_eq_false he4) ?_
        repeat walk_at "s"
        by_cases hw7 : u0 < 7
        · refine r_iteT (decide_eq_true hw7) ?_
          repeat walk_at "s"
          refine ⟨wa, L, d, j, hd, gn, fj, fd, t, sl, ho, m, M, D, held, gone, rfl, q2.z, hm, hs24, hh12, fun fj' m' M' D' held' gone' H3 b3 hf3 hm3 z3 => ?_⟩
          have b3' : But (wS wa L hd gn fj fd) H2 H3 := b3.sub fun x hx => by
            simp only [wS, List.mem_cons, List.mem_append] at hx ⊢
            exact hx.elim (fun e => .inr (.inl e)) fun e => e.elim (fun e => .inr (.inr (.inl e))) fun e => .inr (.inr (.inr e))
          exact k fj' t m' M' D' held' gone' H3 (b02.trans (b3'.sub subW)) (hf0 b02 hf3) hm3 (q2.on b3' hf3 z3)
        · refine r_iteF (decide_eq_false hw7) ?_
          repeat walk_at "s"
          refine ⟨wa, L, d, j, hd, gn, fj, fd, t, sl, ho, m, M, D, held, gone, rfl, q2.z, by omega, fun fj' H3 b3 hf3 z3 => ?_⟩
          have b3' : But (wS wa L hd gn fj fd) H2 H3 := b3.sub fun x hx => by
            simp only [wS, List.mem_cons]
            exact .inr (.inr (.inr hx))
          exact k fj' t (m + 35) _ _ held gone H3 (b02.trans (b3'.sub subW)) (hf0 b02 hf3) (by omega) (q2.on b3' hf3 z3)
end
end L27

open PySem L2 PyProof.Rows J


namespace L27
local macro_rules | `(tactic| walk_at "mv") => `(tactic| with_reducible first
  | exact (wv_layout ..) | exact (wv_disk ..) | exact (wv_journal ..) | exact (wv_held ..) | exact (wv_gone ..) | exact (wv_turn ..))
/-! ### the law -/
section
variable {P : Program} {w : World} {K : PySem.W.Frag} {mg : Str → Option Value} {base : Heap} {CDisk CLayout CJ CC CNS : Addr} {H H' : Hp}
theorem whileCut2 {c : TT} {tb : TS} {D : Ends} {σ : L2.St} {H : Hp} (Pv : Nat → L2.St → Hp → Prop) (Ex : L2.St → Hp → Prop) (h0 : ∃ m, Pv m σ H)
    (ht : ∀ m σ H, Pv m σ H → ∃ b, (∀ R : Bool → Hp → Prop, (∀ H', Same H H' → R b H') → c σ H R) ∧ (b = true → ∀ H', Same H H' → tb { D with nx := fun σ' H' => ∃ m', m' < m ∧ Pv m' σ' H', ct := fun σ' H' => ∃ m', m' < m ∧ Pv m' σ' H', bk := D.nx } σ H') ∧ (b = false → ∀ H', Same H H' → Ex σ H')) (hex : ∀ σ H, Ex σ H → D.nx σ H) : tWhile c tb D σ H := by
  refine ⟨Pv, h0, fun m σ H p => ?_⟩
  obtain ⟨b, h1, h2, h3⟩ := ht m σ H p
  refine h1 _ fun H' s' => ?_
  cases b with
  | true => rw [if_pos rfl]; exact ⟨_, fun _ _ h => h, h2 rfl H' s'⟩
  | false => rw [if_neg Bool.false_ne_true]; exact hex _ _ (h3 rfl H' s')
theorem bt_frs {S T : List Addr} {H H1 H' : Hp} (h : But S H H1) (b : But T H1 H') (f : Fr T H) : But S H H' := bt_but h b fun t ht => .inr (f t ht)
theorem but_frz {H H0 : Hp} {d : Addr} {o : Obj} {kvs : List (L2.Key × V)} (hd : H d = some (.dK kvs)) (h0 : H0 d = some (.frz o (.dK kvs))) (he : ∀ b, b ≠ d → H0 b = H b) : But [d] H H0 := by
  refine ⟨fun x ox e n => ?_, fun x ox e i => ?_, fun x e => ?_⟩
  · rw [he x (by simpa using n)]; exact e
  · by_cases hx : x = d
    · subst hx
      rw [hd] at e
      cases e
      exact absurd i id
    · rw [he x hx]; exact e
  · by_cases hx : x = d
    · subst hx
      rw [h0]; exact fun z => nomatch z
    · rw [he x hx]; exact e
theorem valV_at : ∀ {kvs : List (L2.Key × V)} {i : Nat} {k : L2.Key} {v : V}, (kvs.map (·.1)).Nodup → kvs[i]? = some (k, v) → valV kvs k = some v
  | [], i, k, v, _, h => by cases h
  | q :: r, 0, k, v, n, h => by cases h; exact valV_pos rfl
  | q :: r, i + 1, k, v, n, h => by
    rw [List.map_cons, List.nodup_cons] at n
    have h2 : r[i]? = some (k, v) := h
    rw [valV_neg (fun e => n.1 (List.mem_map.mpr ⟨_, List.mem_of_getElem? h2, e.symm⟩))]
    exact valV_at n.2 h2
theorem kvd_ix {K : PySem.W.Frag} {S : List Addr} {H : Hp} : ∀ {kvs : List (L2.Key × V)} {m : List (Int × PyData)} {i : Nat} {k : L2.Key} {v : V}, KvD K S H kvs m → kvs[i]? = some (k, v) → ∃ c, m[i]? = some c ∧ k = .inl c.1 ∧ Dn K S H v c.2
  | _, _, i, k, v, .nil, h => by cases h
  | _, _, 0, k, v, .cons hd ht, h => by cases h; exact ⟨_, rfl, rfl, hd⟩
  | _, _, i + 1, k, v, .cons hd ht, h => kvd_ix (i := i) ht h
def spLaw (K : PySem.W.Frag) : Sp := fun vs H Q _ => ∃ (a : Addr) (ns : List Int), vs = [.ref a] ∧ SqL K H a (ns.map V.int) ∧ ns.length ≤ 63 ∧ ∀ H', Q (.bl true) H'
abbrev s_law : Stmt := top 46
abbrev N_law : List Str := ["_law_script", "_law_cell", "_law_source_here", "_law_layout", "_law_disk", "_law_w", "_law_k", "_law_number", "_law_home"]
theorem sc_law : FnScope N_law ["_law_script"] (defScope s_law) :=
  ⟨rfl, rfl, rfl, by decide +kernel, rfl, by decide +kernel, by decide +kernel⟩

theorem ok_law {f : Addr} {fd : FuncData} (F : Fun K "law" "law" s_law f fd) (B : Bl mg)
    (C_law_cell_at : Cl P w K mg base CX0 1 "_law_cell_at" (spCell K)) (C_law_source : Cl P w K mg base CX0 1 "_law_source" spSource) (C_law_draw : Cl P w K mg base CX0 1 "_law_draw" spDraw)
    (N_Disk : C8.Mak P w K mg base 3 "Disk" CDisk (spDiskInit K CDisk) []) (M_Disk_write : C8.Met P w K mg base 12 CDisk "write" (spWrite K CDisk) []) (M_Disk_flush : C8.Met P w K mg base 1 CDisk "flush" (spFlush K CDisk) [])
    (M_Disk_pending : C8.Met P w K mg base 1 CDisk "pending" (spCopyOf K CDisk fun D => D.writes.map dWr) []) (M_Disk_durable : C8.Met P w K mg base 1 CDisk "durable" (spCopyOf K CDisk DM.safe) [])
    (N_Layout : C8.Mak P w K mg base 3 "Layout" CLayout (spLayInit CLayout) []) (M_Layout_disk_size : C8.Met P w K mg base 1 CLayout "disk_size" (spLayI CLayout fun s h => 1 + s + h) []) (M_Layout_home_block : C8.Met P w K mg base 3 CLayout "home_block" (spHomeBlock CLayout) [])
    (N_Journal : C8.Mak P w K mg base 5 "Journal" CJ (spJNew K CDisk CJ CC) [.non]) (M_Journal_kept : C8.Met P w K mg base 1 CJ "kept" (spJKept K CJ CC) []) (M_Journal_numbers : C8.Met P w K mg base 1 CJ "numbers" (spJNums K CJ CC) []) (M_Journal_checkpoint : C8.Met P w K mg base 13 CJ "checkpoint" (spCkpt CLayout CDisk K CJ CC) [])
    (C_law_step : Cl P w K mg base CX0 21 "_law_step" (spStep CDisk CLayout CJ CC K)) (C_law_checkpoint_right : Cl P w K mg base CX0 14 "_law_checkpoint_right" (spCR CDisk CLayout CJ CC K)) :
    FnG P w K mg base CX0 22 f fd ["_law_script"] (spLaw K) := by
  refine okG F sc_law (fun vs H Q E h => ?_) (fun cdv A outer s H vs Q E hr hgd h => ?_)
  · obtain ⟨_, _, rfl, _⟩ := h
    rfl
  · obtain ⟨a, ns, rfl, ha, hns, k⟩ := h
    have hu := hu_of hr
    have nd := sc_law.nd
    refine ⟨_, (pss_cons (ps_for PassesOwn.never rfl (pi_lst (K := K) (pe_op (op_addA (K := K)) (pe_lst (pa_cons (pe_cl (E := fun _ => E0) C_law_cell_at hr (by decide) pass00 (pa_cons (pv 0) (pa_cons pe_int pa_nil))) pa_nil)) (pe_slice (sl_any (K := K)) (pv 0) (po_some pe_int) (po_some pe_int)))) (pg_name (i := 1) nd rfl (by first | exact Or.inl rfl | exact Or.inr rfl))
      (pss_cons (ps_set (i := 2) nd rfl (by first | exact Or.inl rfl | exact Or.inr rfl) (pe_cl (E := fun _ => E0) C_law_source hr (by decide) pass00 (pa_cons (pv 1) pa_nil)))
      (pss_cons (ps_set (i := 3) nd rfl (by first | exact Or.inl rfl | exact Or.inr rfl) (C8.pe_mk N_Layout hr (by decide) rfl (pa_cons (pe_op (op_addA (K := K)) pe_int (pe_cl (E := fun _ => E0) C_law_draw hr (by decide) pass00 (pa_cons (pv 2) (pa_cons pe_int pa_nil)))) (pa_cons (pe_op (op_addA (K := K)) pe_int (pe_cl (E := fun _ => E0) C_law_draw hr (by decide) pass00 (pa_cons (pv 2) (pa_cons pe_int pa_nil)))) pa_nil))))
      (pss_cons (ps_set (i := 4) nd rfl (by first | exact Or.inl rfl | exact Or.inr rfl) (C8.pe_mk N_Disk hr (by decide) rfl (pa_cons (C8.pe_mt0 M_Layout_disk_size hr (by decide) (pv 3)) pa_nil)))
      (pss_cons (ps_expr (C8.pe_mt M_Disk_write hr (by decide) (pv 4) (pa_cons pe_int (pa_cons (pe_tup (pa_cons pe_str (pa_cons (pe_op (op_addA (K := K)) pe_int (pe_cl (E := fun _ => E0) C_law_draw hr (by decide) pass00 (pa_cons (pv 2) (pa_cons pe_int pa_nil)))) (pa_cons (pe_cl (E := fun _ => E0) C_law_draw hr (by decide) pass00 (pa_cons (pv 2) (pa_cons pe_int pa_nil))) pa_nil)))) pa_nil))))
      (pss_cons (ps_expr (C8.pe_mt0 M_Disk_flush hr (by decide) (pv 4)))
      (pss_cons (ps_set (i := 5) nd rfl (by first | exact Or.inl rfl | exact Or.inr rfl) (pe_disp (pps_cons pe_str (pv 3) (pps_cons pe_str (pv 4) (pps_cons pe_str (C8.pe_mk N_Journal hr (by decide) rfl (pa_cons (pv 3) (pa_cons (pv 4) pa_nil))) (pps_cons pe_str pe_dnewK (pps_cons pe_str pe_dnewK (pps_cons pe_str pe_int pps_nil)))))) rfl rfl (by simp) (by decide)))
      (pss_cons (ps_for PassesOwn.never rfl (pi_range1 rfl B.range (pa_cons (pe_op (op_addA (K := K)) pe_int (pe_cl (E := fun _ => E0) C_law_draw hr (by decide) pass00 (pa_cons (pv 2) (pa_cons pe_int pa_nil)))) pa_nil)) (pg_name (i := 6) nd rfl (by first | exact Or.inl rfl | exact Or.inr rfl))
      (pss_one (ps_if (pt_not (pt_tru (K := K) (pe_cl (E := fun _ => E0) C_law_step hr (by decide) pass00 (pa_cons (pv 2) (pa_cons (pv 5) pa_nil))))) (pss_one (ps_ret pe_bl)) pss_nil)))
      (pss_cons (ps_while PassesOwn.never (pt_cmpR (op_neLE hr.units) (C8.pe_mt0 M_Journal_kept hr (by decide) (pe_dget hu (pv 5) pe_str (fun _ _ => rfl))) (pe_lst pa_nil) (nomark _))
      (pss_one (ps_if (pt_not (pt_tru (K := K) (pe_cl (E := fun _ => E0) C_law_checkpoint_right hr (by decide) pass00 (pa_cons (pv 5) pa_nil)))) (pss_one (ps_ret pe_bl)) pss_nil)))
      (pss_cons (ps_set (i := 7) nd rfl (by first | exact Or.inl rfl | exact Or.inr rfl) (pe_ix (ix_any (K := K)) (C8.pe_mt0 M_Journal_numbers hr (by decide) (pe_dget hu (pv 5) pe_str (fun _ _ => rfl))) pe_int (fun _ _ => rfl)))
      (pss_cons (ps_if (PW.pt (pw_or (pt_cmpR (op_neLE hr.units) (C8.pe_mt0 M_Disk_pending hr (by decide) (pv 4)) (pe_lst pa_nil) (nomark _)) (pw_or (pt_cmpR (op_neA (K := K) hr.units) (pe_slice (sl_any (K := K)) (pe_ix (ix_any (K := K)) (C8.pe_mt0 M_Disk_durable hr (by decide) (pv 4)) pe_int (fun _ _ => rfl)) po_none (po_some pe_int)) (pe_tup (pa_cons pe_str (pa_cons (pv 7) pa_nil))) (nomark _)) (pw_or1 (pt_cmpR (op_neA (K := K) hr.units) (C8.pe_mt0 M_Journal_checkpoint hr (by decide) (pe_dget hu (pv 5) pe_str (fun _ _ => rfl))) pe_int (nomark _)))))) (pss_one (ps_ret pe_bl)) pss_nil)
      (pss_one (ps_lock (ps_for PassesOwn.never rfl (pi_keys (pe_dget hu (pv 5) pe_str (fun _ _ => rfl))) (pg_name (i := 8) nd rfl (by first | exact Or.inl rfl | exact Or.inr rfl))
      (pss_one (ps_if (pt_cmpR (op_neA (K := K) hr.units) (pe_ix (ix_any (K := K)) (C8.pe_mt0 M_Disk_durable hr (by decide) (pv 4)) (C8.pe_mt M_Layout_home_block hr (by decide) (pv 3) (pa_cons (pv 8) pa_nil)) (fun _ _ => rfl)) (pe_dget hu (pe_dget hu (pv 5) pe_str (fun _ _ => rfl)) (pv 8) (fun _ _ => rfl)) (nomark _)) (pss_one (ps_ret pe_bl)) pss_nil))))))))))))))))
      (pss_one (ps_ret pe_bl))), ?_⟩
    repeat walk_at "s"
    refine ⟨a, ns, 0, rfl, ha, by omega, by omega, fun z0 => ?_⟩
    repeat walk_at "s"
    refine r_newL (sz (Nat.le_of_ble_eq_true rfl)) (fun l0 H1 hl0 s1 hl01 => ?_)
    repeat walk_at "s"
    refine r_slL (s1.seq ha) (fun l1 H2 hl1 s2 hl12 => ?_)
    have ec : cutV (ns.map V.int) (some 1) (some 4) = ((ns.map V.int).drop 1).take (4 - 1) := cut_fromTo (n := 1) (m := 4)
    rw [ec, ← List.map_drop, ← List.map_take] at hl12
    refine r_addL (s2 _ _ hl01) hl12 (sz (by simp; omega)) (fun LL H3 hL s3 hL3 => ?_)
    have eL : [V.int z0] ++ ((ns.drop 1).take (4 - 1)).map V.int = (z0 :: (ns.drop 1).take (4 - 1)).map V.int := rfl
    rw [eL] at hL3
    generalize z0 :: (ns.drop 1).take (4 - 1) = cells at hL3
    refine forL (SqL.of hL3) (fun i σ H' => ∃ o1 o2 o3 o4 o5 o6 o7 o8, σ = [some (.ref a), o1, o2, o3, o4, o5, o6, o7, o8] ∧ H' LL = some (.lst (cells.map V.int)))
      ⟨_, _, _, _, _, _, _, _, rfl, hL3⟩ ?_ ?_ ?_
    · rintro i σ H4 hi ⟨o1, o2, o3, o4, o5, o6, o7, o8, rfl, hL4⟩
      exact SqL.of hL4
    · rintro i x σ H4 hi ⟨o1, o2, o3, o4, o5, o6, o7, o8, rfl, hL4⟩
      rw [List.getElem?_map] at hi
      obtain ⟨cell, hcell, rfl⟩ := Option.map_eq_some_iff.mp hi
      clear hL3 hl12 hl01 s1 s2 s3 ha hi hL hl0 hl1
      repeat walk_at "s"
      refine ⟨cell, rfl, fun p H5 hp s5 hp5 => ?_⟩
      repeat walk_at "s"
      refine ⟨p, 0, 41, rfl, hp5, by omega, by decide, by decide, fun u1 H6 hv0 hv1 b6 hp6 => ?_⟩
      repeat walk_at "s"
      refine ⟨p, _, 9, rfl, hp6, by omega, by decide, by decide, fun u2 H7 hw0 hw1 b7 hp7 => ?_⟩
      obtain ⟨sl, hsl⟩ : ∃ sl : Nat, (24 : Int) + u1 = (sl : Int) := ⟨(24 + u1).toNat, by omega⟩
      obtain ⟨ho, hho⟩ : ∃ ho : Nat, (4 : Int) + u2 = (ho : Int) := ⟨(4 + u2).toNat, by omega⟩
      have hs24 : 24 ≤ sl := by omega
      have hs64 : sl ≤ 64 := by omega
      have hh4 : 4 ≤ ho := by omega
      have hh12 : ho ≤ 12 := by omega
      have b47 : But [] H4 H7 := bt_frs (But.of_same s5) (b6.trans b7) (by
        intro t ht
        rw [List.mem_singleton.mp ht]; exact hp)
      have hp7' : SrcAt H7 p 2 := hp7
      clear b6 b7 s5 hp5 hp6 hp7
      repeat walk_at "s"
      rw [hsl, hho]
      repeat walk_at "s"
      refine r_makeAt (fun LA dx H16 hLA s16 hLA16 => ?_)
      refine ⟨LA, dx, sl, ho, rfl, hLA16, by omega, by omega, hh4, by omega, fun H17 b17 hLay => ⟨rfl, ?_⟩⟩
      have fLA : H4 LA = none := b47.free hLA
      have b717 : But [LA] H7 H17 := (But.of_same s16).trans b17
      have b417 : But [] H4 H17 := bt_frs b47 b717 (by
        intro t ht
        rw [List.mem_singleton.mp ht]; exact fLA)
      have nLp : LA ≠ p := fun q => hp7'.live (q ▸ hLA)
      have hp17 : SrcAt H17 p 2 := hp7'.but b717 (by simpa using nLp.symm)
      clear b47 b717 s16 b17 hLA16 hp7'
      obtain ⟨dl, hLx⟩ := hLay.ex
      repeat walk_at "s"
      refine r_methAt hLx (by with_unfolding_all rfl) ?_
      repeat walk_at "s"
      refine ⟨LA, sl, ho, rfl, hLay, ?_⟩
      repeat walk_at "s"
      refine r_makeAt (fun d dx H11 hd s11 hd11 => ?_)
      refine ⟨d, dx, 1 + sl + ho, rfl, hd11, by omega, by omega, fun ls H12 hls b12 hD => ⟨rfl, ?_⟩⟩
      have fd4 : H4 d = none := b417.free hd
      have ffd : Fr (d :: ls) H4 := fun t ht => by
        rcases List.mem_cons.mp ht with e | ht
        · rw [e]; exact fd4
        · exact (b417.trans (But.of_same s11)).free (hls t ht)
      have ffd17 : Fr (d :: ls) H17 := fun t ht => by
        rcases List.mem_cons.mp ht with e | ht
        · rw [e]; exact hd
        · exact (But.of_same (S := []) s11).free (hls t ht)
      have b1712 : But [d] H17 H12 := (But.of_same s11).trans b12
      have b412 : But [] H4 H12 := bt_frs b417 b1712 (by
        intro t ht
        rw [List.mem_singleton.mp ht]; exact fd4)
      have npf : p ∉ d :: ls := fun q => hp17.live (ffd17 p q)
      have nLf : LA ∉ d :: ls := fun q => hLay.ex.elim fun _ h => live_of h (ffd17 LA q)
      have hp12 : SrcAt H12 p 2 := hp17.but b1712 (fun q => npf (by rw [List.mem_singleton.mp q]; exact List.mem_cons_self))
      have hLay12 := hLay.but b1712 (fun q => nLf (by rw [List.mem_singleton.mp q]; exact List.mem_cons_self))
      generalize hfd : d :: ls = fd at hD ffd npf nLf
      clear b417 b1712 s11 b12 hd11 hp17 hLay ffd17 hLx
      repeat walk_at "s"
      obtain ⟨dxd, q1, q2, q3, q4, e1, e2, e3, e4, efd, hnd, hd12, _⟩ := id hD.ex
      refine r_methAt hd12 (by with_unfolding_all rfl) ?_
      repeat walk_at "s"
      refine ⟨p, _, 9, rfl, hp12, by omega, by decide, by decide, fun z HA hz0 hz1 bA hpA => ?_⟩
      repeat walk_at "s"
      refine ⟨p, _, 24, rfl, hpA, by omega, by decide, by decide, fun u3 HB hx0 hx1 bB hpB => ?_⟩
      obtain ⟨slot, rfl⟩ : ∃ slot : Nat, u3 = (slot : Int) := ⟨u3.toNat, by omega⟩
      have hslot : slot < sl := by omega
      have bAB : But [p] H12 HB := bA.trans bB
      have b4B : But [] H4 HB := bt_frs b412 bAB (by
        intro t ht
        rw [List.mem_singleton.mp ht]; exact hp)
      have hDB := hD.but bAB (fun x hx q => npf ((List.mem_singleton.mp q) ▸ hx))
      have hLayB := hLay12.but bAB (by simpa using nLp)
      have hpB' : SrcAt HB p 4 := hpB
      clear b412 bA bB bAB hp12 hpA hpB hD hLay12
      repeat walk_at "s"
      refine r_newT (sz (Nat.le_of_ble_eq_true rfl)) (fun t H13 ht s13 ht13 => ?_)
      have hdt : Dn K [] H13 (.ref t) (hdD (1 + z) slot) := .tup (.of ht13) (.cons (.str _) (.cons (.int _) (.one (.int _))))
      repeat walk_at "s"
      refine ⟨d, fd, _, 0, _, 0, .ref t, [], _, rfl, hDB.same s13, by omega, by omega, by omega, hdt, hdD_blk _ _, fun H14 b14 hD14 => ?_⟩
      obtain ⟨dxd', q1', q2', q3', q4', e1', e2', e3', e4', efd', hnd', hd14, _⟩ := id hD14.ex
      repeat walk_at "s"
      refine r_methAt hd14 (by with_unfolding_all rfl) ?_
      repeat walk_at "s"
      refine ⟨d, fd, _, _, _, rfl, hD14, by omega, fun H15 b15 hD15 => ?_⟩
      have bB15 : But fd HB H15 := (But.of_same s13).trans (b14.trans b15)
      have b415 : But [] H4 H15 := bt_frs b4B bB15 ffd
      have hp15 := hpB'.but bB15 npf
      have hLay15 := hLayB.but bB15 nLf
      have hrd : (((DM.new (1 + sl + ho)).write 0 (hdD (1 + z) slot)).flush).read 0 = hdD (1 + z) slot := by
        rw [read_fl hD14.ok (by decide), read_wr, if_pos rfl]
      have hdl : (((DM.new (1 + sl + ho)).write 0 (hdD (1 + z) slot)).flush).deeds.length = 2 := rfl
      have hwr : (((DM.new (1 + sl + ho)).write 0 (hdD (1 + z) slot)).flush).writes = [] := rfl
      have p27 : P27 sl ho ⟨1 + z, slot, [], [], []⟩ (((DM.new (1 + sl + ho)).write 0 (hdD (1 + z) slot)).flush) [] [] := P27.new (by omega) (by omega) (by omega) (by omega) hslot hwr hrd
      generalize ((DM.new (1 + sl + ho)).write 0 (hdD (1 + z) slot)).flush = D0 at hD15 hrd hdl hwr p27
      clear b4B bB15 b14 b15 s13 hd12 hd14 hDB hD14 hdt ht13 hpB' hLayB
      repeat walk_at "s"
      refine r_disp (fun wa H16 hwa s16 hwa16 => ?_)
      repeat walk_at "s"
      refine r_makeAt (fun j dxj H18 hj s18 hj18 => ?_)
      have hD16 := hD15.same s16
      refine ⟨j, dxj, LA, d, fd, 1 + z, slot, _, _, _, rfl, hj18, hD16.same s18, hrd, fun fj H19 b19 hfj hJ => ⟨rfl, ?_⟩⟩
      repeat walk_at "s"
      refine r_dnew (fun hd H20 hhd s20 hhd20 => ?_)
      repeat walk_at "s"
      refine r_dnew (fun gn H21 hgn s21 hgn21 => ?_)
      repeat walk_at "s"
      have lv15 : ∀ x : Addr, H15 x ≠ none → H16 x ≠ none := fun x => (But.of_same (S := []) s16).live x
      have nwj : wa ≠ j := fun e => live_of hwa16 (e ▸ hj)
      have b1819 : But [j] H16 H19 := (But.of_same s18).trans b19
      have hwa21 : H21 wa = _ := s21 _ _ (s20 _ _ (b1819.at hwa16 (by simpa using nwj)))
      refine dispAt (wF (.ref LA) (.ref d) (.ref j) (.ref hd) (.ref gn) (.int 0)) hwa21 rfl (Nat.le_of_ble_eq_true rfl) (wm6 ..) (fun H22 b22 hw22 => ?_)
      have fj16 : Fr fj H16 := fun t ht => (hfj t ht).elim (fun e => e ▸ hj) fun h => (But.of_same (S := []) s18).free h
      have fj15 : Fr fj H15 := fun t ht => (But.of_same (S := []) s16).free (fj16 t ht)
      have b1519 : But [j] H15 H19 := (But.of_same s16).trans b1819
      have b1521 : But [j] H15 H21 := b1519.trans ((But.of_same s20).trans (But.of_same s21))
      have b1522 : But [] H15 H22 := bt_frs (bt_frs (But.refl (S := [])) b1521 (by
        intro t ht
        rw [List.mem_singleton.mp ht]; exact (But.of_same (S := []) s16).free hj)) b22 (by
        intro t ht
        rw [List.mem_singleton.mp ht]; exact hwa)
      have s1522 := b1522.same
      have wfj : wa ∉ fj := fun q => live_of hwa16 (fj16 wa q)
      have s1921 : Same H19 H21 := fun b o e => s21 b o (s20 b o e)
      have hJ22 := (hJ.same s1921).but b22 (fun x hx q => wfj ((List.mem_singleton.mp q) ▸ hx))
      have lhd19 : ∀ {x : Addr}, x ∈ fj ++ fd → H19 x ≠ none := fun {x} hx => (List.mem_append.mp hx).elim (fun q => hJ.live x q) fun q => b1519.live x (hD15.live x q)
      have fhd15 : H15 hd = none := b1519.free hhd
      have fgn15 : H15 gn = none := b1519.free ((But.of_same (S := []) s20).free hgn)
      have nhw : hd ≠ wa := fun e => live_of (b1819.at hwa16 (by simpa using nwj)) (e ▸ hhd)
      have ngw : gn ≠ wa := fun e => live_of (s20 _ _ (b1819.at hwa16 (by simpa using nwj))) (e ▸ hgn)
      have ngh : gn ≠ hd := fun e => live_of hhd20 (e ▸ hgn)
      have lL15 : H15 LA ≠ none := hLay15.ex.elim fun _ h => live_of h
      have lp15 := hp15.live
      have z22 : W27 K CDisk CLayout CJ CC H22 wa LA d j hd gn fj fd 0 sl ho 2 ⟨1 + z, slot, [], [], []⟩ D0 [] [] := by
        refine ⟨hw22, hLay15.same s1522, hJ22, ⟨DOk.fit hD15.ok (by rw [hdl]; exact Nat.le_refl 2), (hD15.same s1522).ex⟩, ⟨[], b22.at (s21 _ _ hhd20) (by simpa using nhw), .nil⟩, ⟨[], b22.at hgn21 (by simpa using ngw), rfl⟩, fun x hx q => hD15.live x q (fj15 x hx), ?_, fun x hx => ?_, p27⟩
        · simp only [List.nodup_cons, List.mem_cons, List.not_mem_nil, or_false, not_or, not_false_eq_true, List.nodup_nil, and_true]
          exact ⟨⟨fun e => lL15 (e ▸ hwa), nhw.symm, ngw.symm⟩, ⟨fun e => lL15 (e ▸ fhd15), fun e => lL15 (e ▸ fgn15)⟩, ngh.symm⟩
        · simp only [List.mem_cons, List.not_mem_nil, or_false] at hx
          rcases hx with e | e | e | e
          · rw [e]; exact ⟨wfj, fun q => hD15.live wa q hwa⟩
          · rw [e]; exact ⟨fun q => lL15 (fj15 _ q), nLf⟩
          · rw [e]; exact ⟨fun q => lhd19 (List.mem_append_left _ q) hhd, fun q => lhd19 (List.mem_append_right _ q) hhd⟩
          · rw [e]; exact ⟨fun q => lhd19 (List.mem_append_left _ q) ((But.of_same (S := []) s20).free hgn), fun q => lhd19 (List.mem_append_right _ q) ((But.of_same (S := []) s20).free hgn)⟩
      have q22 : S27 K CDisk CLayout CJ CC H22 p wa LA d j hd gn fj fd 4 0 sl ho 2 ⟨1 + z, slot, [], [], []⟩ D0 [] [] := by
        refine ⟨hp15.same s1522, z22, ?_, fun q => lp15 (fj15 p q), npf⟩
        simp only [List.mem_cons, List.not_mem_nil, or_false, not_or]
        exact ⟨fun e => lp15 (e ▸ hwa), nLp.symm, fun e => lp15 (e ▸ fhd15), fun e => lp15 (e ▸ fgn15)⟩
      have F0 : Fr (p :: wS wa LA hd gn fj fd) H4 := fun x hx => by
        simp only [wS, List.mem_cons, List.mem_append] at hx
        rcases hx with e | e | e | e | e | e
        · rw [e]; exact hp
        · rw [e]; exact b415.free hwa
        · rw [e]; exact b415.free fhd15
        · rw [e]; exact b415.free fgn15
        · exact b415.free (fj15 x e)
        · exact ffd x e
      have s422 : Same H4 H22 := fun b o e => s1522 b o (b415.same b o e)
      clear s1522 b1522 b1521 b1519 b1819 b22 b19 hJ hJ22 hD15 hD16 hLay15 hp15 z22 lv15 fj15 fj16 hwa21 hw22 hwa16 hgn21 hhd20 s16 s18 s20 s21 s1921 lhd19 lL15 lp15 b415 hfj hj18
      repeat walk_at "s"
      refine ⟨p, 4, 61, rfl, q22.src, by omega, by decide, by decide, fun u4 H23 hy0 hy1 b23 hp23 => ?_⟩
      have q23 := q22.drawn b23 hp23
      have s423 : Same H4 H23 := (bt_frs (But.of_same s422) b23 (by
        intro t ht
        rw [List.mem_singleton.mp ht]; exact hp) : But [] H4 H23).same
      clear q22 b23 hp23 s422
      repeat walk_at "s"
      refine forR (by omega) (fun i σ H' => ∃ o6 fj t m M D held gone, σ = [some (.ref a), some (.int cell), some (.ref p), some (.ref LA), some (.ref d), some (.ref wa), o6, o7, o8] ∧ Same H4 H' ∧ Fr (p :: wS wa LA hd gn fj fd) H4 ∧ m ≤ 2 + 3000 * i ∧ S27 K CDisk CLayout CJ CC H' p wa LA d j hd gn fj fd (5 + 2 * i) t sl ho m M D held gone)
        ⟨_, fj, 0, 2, _, _, [], [], rfl, s423, F0, by omega, q23.drawn .refl (q23.src.mono (by omega))⟩ ?_ ?_
      · rintro i σ H5 hi ⟨o6, fj, t, m, M, D, held, gone, rfl, s45, F5, hm, q5⟩
        repeat walk_at "s"
        refine ⟨p, wa, LA, d, j, hd, gn, fj, fd, _, t, sl, ho, m, M, D, held, gone, rfl, q5, by omega, by omega, hs24, hh4, hh12, fun fj' t' m' M' D' held' gone' H6 b6 hf6 hm6 q6 => ?_⟩
        repeat walk_at "s"
        refine r_iteF rfl ?_
        refine ⟨_, fj', t', m', M', D', held', gone', rfl, (bt_frs (But.of_same s45) b6 F5 : But [] H4 H6).same, fun x hx => ?_, by omega, by
          have e : (5 : Int) + 2 * (i : Int) + 1 + 1 = 5 + 2 * ((i + 1 : Nat) : Int) := by push_cast; omega
          rw [← e]; exact q6⟩
        simp only [wS, List.mem_cons, List.mem_append] at hx
        have f5 : ∀ y, y ∈ fj' → H4 y = none := fun y hy => (hf6 y hy).elim (fun q => F5 y (by simp [wS, q])) fun h => (But.of_same (S := []) s45).free h
        rcases hx with e | e | e | e | e | e
        · rw [e]; exact hp
        · exact F5 x (by simp [wS, e])
        · exact F5 x (by simp [wS, e])
        · exact F5 x (by simp [wS, e])
        · exact f5 x e
        · exact F5 x (by simp [wS, e])
      · rintro σ H5 ⟨o6, fj, t, m, M, D, held, gone, rfl, s45, F5, hm, q5⟩
        have hm80 : m ≤ 250000 := by omega
        clear q23 hm s423 F0 p27 hrd hdl hwr D0
        repeat walk_at "s"
        refine whileCut2 (fun mm σ H' => ∃ fj m M D, mm = M.kept.length ∧ σ = [some (.ref a), some (.int cell), some (.ref p), some (.ref LA), some (.ref d), some (.ref wa), o6, o7, o8] ∧ Same H4 H' ∧ Fr (p :: wS wa LA hd gn fj fd) H4 ∧ m + 35 * M.kept.length ≤ 260000 ∧ S27 K CDisk CLayout CJ CC H' p wa LA d j hd gn fj fd (5 + 2 * (u4.toNat + 20 : Nat)) t sl ho m M D held gone)
          (fun σ H' => ∃ fj m M D, σ = [some (.ref a), some (.int cell), some (.ref p), some (.ref LA), some (.ref d), some (.ref wa), o6, o7, o8] ∧ Same H4 H' ∧ Fr (p :: wS wa LA hd gn fj fd) H4 ∧ m ≤ 260000 ∧ M.kept = [] ∧ S27 K CDisk CLayout CJ CC H' p wa LA d j hd gn fj fd (5 + 2 * (u4.toNat + 20 : Nat)) t sl ho m M D held gone)
          ⟨_, fj, m, M, D, rfl, rfl, s45, F5, (by have := q5.z.p.mo.kl; have := q5.z.p.mo.s2; omega), (by
            refine q5.drawn .refl (q5.src.mono ?_)
            omega)⟩ ?_ ?_
        · rintro mm σ H6 ⟨fj, m, M, D, rfl, rfl, s46, F6, hm6, q6⟩
          have hkl := q6.z.p.mo.kl
          have hs2 := q6.z.p.mo.s2
          have hw6 := q6.z.hw
          obtain ⟨_, _, _, _, _, jin6⟩ := id q6.z.hJ
          obtain ⟨dx6, hj6⟩ := jin6.h0
          refine ⟨!M.kept.isEmpty, fun R hR => ?_, fun hb H7 s7 => ?_, fun hb H7 s7 => ?_⟩
          · repeat walk_at "s"
            refine r_methAt hj6 (by with_unfolding_all rfl) ?_
            repeat walk_at "s"
            have kps : ∀ k' ∈ M.kept, k'.left.length ≤ 1000 := fun k' hk' => by
              have l1 := (q6.z.p.mo.kp k' hk').ll.length_le
              have l2 := ((q6.z.p.mo.kp k' hk').po.ca).len32
              omega
            refine ⟨j, LA, d, none, M, fj, rfl, q6.z.hJ, by omega, kps, fun l ts ls H8 s8 hl hl8 htl _ => ?_⟩
            repeat walk_at "s"
            refine r_newL (sz (Nat.le_of_ble_eq_true rfl)) (fun e9 H9 he9 s9 he99 => ?_)
            refine r_neLE (s9 _ _ hl8) he99 ?_
            have eb : (ts.map V.ref).isEmpty = M.kept.isEmpty := by
              cases ts <;> cases hk : M.kept <;> simp_all
            rw [eb]
            exact ⟨_, rfl, hR H9 fun b o e => s9 b o (s8 b o e)⟩
          · have q7 := q6.same s7
            have hkn : M.kept ≠ [] := fun e => by rw [e] at hb; cases hb
            have hkl8 := ckM_len hkn
            repeat walk_at "s"
            refine ⟨wa, LA, d, j, hd, gn, fj, fd, t, sl, ho, m, M, D, held, gone, rfl, q7.z, by omega, fun fj' H8 b8 hf8 z8 => ?_⟩
            repeat walk_at "s"
            refine r_iteF rfl ?_
            have b8' : But (wS wa LA hd gn fj fd) H7 H8 := b8.sub fun x hx => by
              simp only [wS, List.mem_cons]
              exact .inr (.inr (.inr hx))
            have s47 : Same H4 H7 := fun b o e => s7 b o (s46 b o e)
            refine ⟨_, by omega, fj', m + 35, ckM M, _, rfl, rfl, (bt_frs (But.of_same s47) b8' (fun x hx => F6 x (List.mem_cons_of_mem _ hx)) : But [] H4 H8).same, fun x hx => ?_, by omega, q7.on b8' hf8 z8⟩
            simp only [wS, List.mem_cons, List.mem_append] at hx
            rcases hx with e | e | e | e | e | e
            · rw [e]; exact hp
            · exact F6 x (by simp [wS, e])
            · exact F6 x (by simp [wS, e])
            · exact F6 x (by simp [wS, e])
            · exact (hf8 x e).elim (fun q => F6 x (by simp [wS, q])) fun h => (But.of_same (S := []) s47).free h
            · exact F6 x (by simp [wS, e])
          · have hk0 : M.kept = [] := List.isEmpty_iff.mp (by cases h : M.kept.isEmpty with
              | true => rfl
              | false => rw [h] at hb; cases hb)
            exact ⟨fj, m, M, D, rfl, fun b o e => s7 b o (s46 b o e), F6, by omega, hk0, q6.same s7⟩
        · clear q5 s45 F5 hm80 m M D fj
          rintro σ H6 ⟨fj, m, M, D, rfl, s46, F6, hm6, hk6, q6⟩
          have hw6 := q6.z.hw
          obtain ⟨_, _, _, _, _, jin6⟩ := id q6.z.hJ
          obtain ⟨dx6, hj6⟩ := jin6.h0
          repeat walk_at "s"
          refine r_methAt hj6 (by with_unfolding_all rfl) ?_
          repeat walk_at "s"
          refine ⟨j, LA, d, none, M, fj, rfl, q6.z.hJ, fun t7 H7 s7 ht7 => ?_⟩
          have q7 := q6.same s7
          repeat walk_at "s"
          obtain ⟨dxd7, r1, r2, r3, r4, g1, g2, g3, g4, efd7, hnd7, hd7, _⟩ := id q7.z.hD.ex
          refine r_methAt hd7 (by with_unfolding_all rfl) ?_
          repeat walk_at "s"
          refine ⟨d, fd, _, _, D, rfl, q7.z.hD, fun l8 xs8 H8 hl8 s8 hl88 hxs8 => ?_⟩
          have ex8 : xs8 = [] := List.length_eq_zero_iff.mp (by rw [hxs8.length, List.length_map, q7.z.p.pd]; rfl)
          rw [ex8] at hl88
          repeat walk_at "s"
          refine r_newL (sz (Nat.le_of_ble_eq_true rfl)) (fun e9 H9 he9 s9 he99 => ?_)
          refine r_neLE (s9 _ _ hl88) he99 ?_
          have q9 := (q7.same s8).same s9
          have s49 : Same H4 H9 := fun b o e => s9 b o (s8 b o (s7 b o (s46 b o e)))
          have hd9 := s9 _ _ (s8 _ _ hd7)
          clear hxs8 hl88 he99 s9 s8 q7 hd7 hw6 hj6 jin6 s7 ht7
          repeat walk_at "s"
          refine r_iteF rfl ?_
          repeat walk_at "s"
          refine r_methAt hd9 (by with_unfolding_all rfl) ?_
          repeat walk_at "s"
          refine ⟨d, fd, _, _, D, rfl, q9.z.hD, fun l10 ys H10 hl10 s10 hl1010 hys => ?_⟩
          obtain ⟨sl0, hsl0⟩ := q9.z.p.hd
          have hrw : ∀ b : Int, D.read b = D.safe.getD b.toNat .none := fun b => by
            unfold DM.read
            rw [q9.z.p.pd]; rfl
          have hfm : firstM M = M.next := by unfold firstM; rw [hk6]
          have hsf : D.safe[0]? = some (hdD M.next sl0) := by
            have e1 := hrw 0
            rw [hsl0, hfm] at e1
            have hl0 := q9.z.hD.ok.sl
            have e2 : D.safe.getD (0 : Int).toNat .none = D.safe.getD 0 .none := rfl
            rw [e2, List.getD_eq_getElem?_getD] at e1
            rw [List.getElem?_eq_getElem (by omega)] at e1 ⊢
            exact congrArg some e1.symm
          obtain ⟨x0, hx0', hxd0⟩ := hys.getD hsf
          obtain ⟨tt, xt, rfl, htt, hxt⟩ := hxd0.tup_inv
          cases hxt with
          | cons hc1 hr1 =>
          cases hc1 with
          | str =>
          cases hr1 with
          | cons hc2 hr2 =>
          cases hc2 with
          | int =>
          cases hr2 with
          | cons hc3 hr3 =>
          cases hr3 with
          | nil =>
          repeat walk_at "s"
          refine r_ixL (.of hl1010) (atI_nat (j := 0) hx0') ?_
          repeat walk_at "s"
          refine r_slT htt (fun t11 H11 s11 ht11 => ?_)
          repeat walk_at "s"
          refine r_newT (sz (Nat.le_of_ble_eq_true rfl)) (fun t12 H12 ht12 s12 ht1212 => ?_)
          repeat walk_at "s"
          have d11 : Dn K [] H11 (.ref t11) (.tuple [.str "tail", .int M.next]) := .tup ht11 (.cons (.str _) (.one (.int _)))
          have d12 : Dn K [] H12 (.ref t12) (.tuple [.str "tail", .int M.next]) := .tup (.of ht1212) (.cons (.str _) (.one (.int _)))
          have sh2 : J.Sh 2 (.tuple [.str "tail", .int M.next]) := J.Sh.tup fun y hy => by
            rcases List.mem_cons.mp hy with rfl | hy
            · exact J.Sh.str (by decide +kernel)
            · rw [List.mem_singleton.mp hy]; exact J.Sh.int
          refine J.r_neSh (d11.same s12).dp d12.dp sh2 (by decide) ?_
          have q12 := ((q9.same s10).same s11).same s12
          have s412 : Same H4 H12 := fun b o e => s12 b o (s11 b o (s10 b o (s49 b o e)))
          clear q9 s10 s11 s12 s49 ht11 ht1212 htt hxd0 hys hl1010 d11 d12 hd9 hx0'
          have hw12 := q12.z.hw
          obtain ⟨_, _, _, _, _, jin12⟩ := id q12.z.hJ
          obtain ⟨dx12, hj12⟩ := jin12.h0
          repeat walk_at "s"
          refine r_iteF rfl ?_
          repeat walk_at "s"
          refine r_methAt hj12 (by with_unfolding_all rfl) ?_
          repeat walk_at "s"
          refine ⟨j, LA, d, none, M, fj, fd, sl, ho, m, D, rfl, q12.z.hJ, q12.z.hL, (q12.z.na LA (by simp)).1, (q12.z.na LA (by simp)).2, q12.z.hD, q12.z.dj, by omega, by (rw [hk6]; exact Nat.zero_le _), (fun k' hk' => by (rw [hk6] at hk'; cases hk')), fun fj2 m2 H14 b14 hf14 hm14 hD14 hJ14 => ?_⟩
          have eD : ckD none sl M D = D := by unfold ckD; rw [hk6]
          have z14 := q12.z.move b14 hf14 hD14 hJ14 (q12.z.p.ckpt q12.z.hD.ok)
          rw [eD] at z14
          have b14' : But (wS wa LA hd gn fj fd) H12 H14 := b14.sub fun x hx => by
            simp only [wS, List.mem_cons]
            exact .inr (.inr (.inr hx))
          have s414 : Same H4 H14 := (bt_frs (But.of_same s412) b14' (fun x hx => F6 x (List.mem_cons_of_mem _ hx)) : But [] H4 H14).same
          have hk14 : (ckM M).kept = [] := by
            show M.kept.drop _ = []
            rw [hk6]; exact List.drop_nil
          generalize ckM M = M2 at z14 hk14 hJ14
          clear b14 b14' s412 q12 hD14 hJ14 hw12 hj12 jin12 hf14
          refine r_neI ?_
          refine ⟨_, rfl, ?_⟩
          refine r_iteF (by rw [hk6]; rfl) ?_
          repeat walk_at "s"
          obtain ⟨kh, hh14, hkh14⟩ := z14.hh
          have hw14 := z14.hw
          repeat walk_at "s"
          refine r_forK hh14 (fun o H15 hz hne => ?_)
          have bf := but_frz hh14 hz hne
          have nhd := z14.na hd (by simp)
          have ndd := z14.nd
          simp only [List.nodup_cons, List.mem_cons, List.not_mem_nil, or_false, not_or] at ndd
          obtain ⟨⟨n1, n2, n3⟩, ⟨n4, n5⟩, n6, _⟩ := ndd
          have hL15 := z14.hL.but bf (by simpa using n4)
          have hD15 := z14.hD.but bf (fun x hx q => nhd.2 ((List.mem_singleton.mp q) ▸ hx))
          have hw15 := bf.at hw14 (by simpa using n2)
          have hkh15 : KvD K [] H15 kh held := hkh14.nlb (fun c hc => (z14.p.hv c hc).nol) bf
          have hrw : ∀ b : Int, D.read b = D.safe.getD b.toNat .none := fun b => by
            unfold DM.read
            rw [z14.p.pd]; rfl
          repeat walk_at "s"
          refine forK hz (fun i σ H' => ∃ o8', σ = [some (.ref a), some (.int cell), some (.ref p), some (.ref LA), some (.ref d), some (.ref wa), o6, some (.int M.next), o8'] ∧ Same H15 H') ⟨_, rfl, fun b o e => e⟩ ?_ ?_ ?_
          · rintro i σ H16 hi' ⟨o8', rfl, s16⟩
            exact s16 _ _ hz
          · rintro Df i kk v σ H16 hj' ⟨o8', rfl, s16⟩
            obtain ⟨c, hc, rfl, hvd⟩ := kvd_ix hkh15 hj'
            have hcm := List.mem_of_getElem? hc
            obtain ⟨c0, c1, c2⟩ := z14.p.he c hcm
            have hz16 := s16 _ _ hz
            have hw16 := s16 _ _ hw15
            have hD16 := hD15.same s16
            have hL16 := hL15.same s16
            obtain ⟨dxe, r1, r2, r3, r4, g1, g2, g3, g4, efe, hne', hd16, _⟩ := id hD16.ex
            obtain ⟨dl16, hLx16⟩ := hL16.ex
            have hv : valV kh (.inl c.1) = some v := by
              obtain ⟨v', hv', hvd'⟩ := hkh15.some (getD_of z14.p.hn hcm)
              have hkk : (kh.map (·.1)).Nodup := by rw [hkh15.keys]; exact nodup_inl z14.p.hn
              exact valV_at hkk hj'
            show J.Turn _ _ _ _ (.int c.1) _ _
            repeat walk_at "s"
            refine r_methAt hd16 (by with_unfolding_all rfl) ?_
            repeat walk_at "s"
            refine ⟨d, fd, _, _, D, rfl, hD16, fun l17 ys H17 hl17 s17 hl1717 hys => ?_⟩
            have hLx17 := s17 _ _ hLx16
            have hz17 := s17 _ _ hz16
            have hw17 := s17 _ _ hw16
            repeat walk_at "s"
            refine r_methAt hLx17 (by with_unfolding_all rfl) ?_
            repeat walk_at "s"
            refine ⟨LA, sl, ho, c.1, rfl, hL16.same s17, c0, c1, ?_⟩
            obtain ⟨n0, hn0⟩ : ∃ n0 : Nat, 1 + (sl : Int) + c.1 = (n0 : Int) := ⟨(1 + (sl : Int) + c.1).toNat, by omega⟩
            have hslen := hD16.ok.sl
            have hg0 : D.safe[n0]? = some c.2 := by
              have e1 : comJ sl M2 D c.1 = D.read (1 + (sl : Int) + c.1) := by
                unfold comJ
                rw [hk14]; rfl
              rw [e1, hrw, hn0, Int.toNat_natCast, List.getD_eq_getElem?_getD] at c2
              rw [List.getElem?_eq_getElem (by omega)] at c2 ⊢
              exact congrArg some c2
            obtain ⟨y, hy, hyd⟩ := hys.getD hg0
            rw [hn0]
            repeat walk_at "s"
            refine r_ixL (.of hl1717) (atI_nat hy) ?_
            repeat walk_at "s"
            refine r_dAtF hz17 hv ?_
            repeat walk_at "s"
            refine J.r_neSh hyd.dp ((hvd.same s16).same s17).dp (J.blk_sh (z14.p.hv c hcm).blk) (by decide) ?_
            repeat walk_at "s"
            refine r_iteF rfl ?_
            exact ⟨_, rfl, fun b o e => s17 b o (s16 b o e)⟩
          rintro σ H16 ⟨o8', rfl, s16⟩
          have b1416 : But [] H14 (upd H16 hd (.dK kh)) := but_lock hh14 hz hne (But.of_same s16)
          exact ⟨_, _, _, _, _, _, _, _, rfl, b1416.same _ _ (s414 _ _ hL4)⟩
    · rintro σ H4 ⟨o1, o2, o3, o4, o5, o6, o7, o8, rfl, hL4⟩
      repeat walk_at "s"
      exact k _
end
end L27

set_option Elab.async false
set_option linter.all false
set_option maxRecDepth 100000
set_option maxHeartbeats 4000000
open PySem L2 PyProof.Rows J
namespace L27
/-- is an error of the class at D what «except S» names? -/
theorem exm_cl {K : PySem.W.Frag} {D S : Addr} {b : Bool} (h1 : PySem.W.subIn K (.ref S) (.type "BaseException") = some true) (h2 : PySem.W.isClsIn K S = true) (h3 : PySem.W.typeIn K (.ref S) = some (.type "type")) (h4 : PySem.W.subIn K (.ref D) (.ref S) = some b) :
    PySem.W.exmOne K (.ref D) (.ref S) = some b := by
  have e1 : (PySem.W.subIn K (.ref S) (.type "BaseException") == some true) = true := by rw [h1] <;> rfl
  have e2 : ((PySem.W.clsIn K S).isSome && PySem.W.typeIn K (.ref S) == some (.type "type")) = true := by
    have h2' : (PySem.W.clsIn K S).isSome = true := h2
    rw [h2', h3] <;> rfl
  show (if (PySem.W.subIn K (.ref S) (.type "BaseException") == some true) = true then (if ((PySem.W.clsIn K S).isSome && PySem.W.typeIn K (.ref S) == some (.type "type")) = true then PySem.W.subIn K (.ref D) (.ref S) else none) else none) = some b
  rw [if_pos e1, if_pos e2]
  exact h4
theorem exm_self {K : PySem.W.Frag} {S : Addr} (h1 : PySem.W.subIn K (.ref S) (.type "BaseException") = some true) (h2 : PySem.W.isClsIn K S = true) (h3 : PySem.W.typeIn K (.ref S) = some (.type "type")) (h4 : PySem.W.subIn K (.ref S) (.ref S) = some true) :
    PySem.W.exmOne K (.ref S) (.ref S) = some true := exm_cl h1 h2 h3 h4
theorem kit_clF {K : PySem.W.Frag} {D C : Addr} (hi : PySem.W.isClsIn K C = true) (ht : PySem.W.typeIn K (.ref C) = some (.type "type")) (hs : PySem.W.subIn K (.ref D) (.ref D) = some true) (h : PySem.W.subIn K (.ref D) (.ref C) = some false) : PySem.W.kitOne K (.ref D) (.ref C) = some false :=
  kit_cl hi ht h (.inr fun e => by
    subst e
    rw [hs] at h
    cases h)
end L27
open PySem L2 PyProof.Rows J
set_option maxHeartbeats 4000000
namespace L27
theorem all_mk {P : Program} {w : World} {K : PySem.W.Frag} {h : Heap} {mg : Str → Option Value} {fa : Addr} {CDisk CLayout CCommitted CJournal f0 f1 f2 f3 f4 f5 f6 f7 f8 f9 f10 f11 f12 f13 f14 f15 f16 f17 f18 f19 f20 f21 f22 f23 f24 f25 f26 f27 f28 f29 f30 f31 f32 CLogError f33 CNoSpace f34 f35 f36 f37 f38 f39 f40 f41 f42 f43 f44 f45 f46 f47 f48 : Addr} {fd0 fd1 fd2 fd3 fd4 fd5 fd6 fd7 fd8 fd9 fd10 fd11 fd12 fd13 fd14 fd15 fd16 fd17 fd18 fd19 fd20 fd21 fd22 fd23 fd24 fd25 fd26 fd27 fd28 fd29 fd30 fd31 fd32 fd33 fd34 fd35 fd36 fd37 fd38 fd39 fd40 fd41 fd42 fd43 fd44 fd45 fd46 fd47 fd48 : FuncData} (X : K.In h) (G : h.Ns mainGlobals mg) (hfa : mg "law" = some (.ref fa))
    (F0 : FunD K "is_integer" "is_integer" (defArgs s_is_integer) (defBody s_is_integer) (defScope s_is_integer) [] [] f0 fd0)
    (F1 : FunD K "is_between" "is_between" (defArgs s_is_between) (defBody s_is_between) (defScope s_is_between) [] [] f1 fd1)
    (F2 : FunD K "is_value" "is_value" (defArgs s_is_value) (defBody s_is_value) (defScope s_is_value) [.int 0] [] f2 fd2)
    (F3 : FunD K "__init__" "Disk.__init__" (defArgs s_Disk_init) (defBody s_Disk_init) (defScope s_Disk_init) [] [] f3 fd3)
    (F4 : FunD K "check_block" "Disk.check_block" (defArgs s_Disk_check_block) (defBody s_Disk_check_block) (defScope s_Disk_check_block) [] [] f4 fd4)
    (F5 : FunD K "read" "Disk.read" (defArgs s_Disk_read) (defBody s_Disk_read) (defScope s_Disk_read) [] [] f5 fd5)
    (F6 : FunD K "write" "Disk.write" (defArgs s_Disk_write) (defBody s_Disk_write) (defScope s_Disk_write) [] [] f6 fd6)
    (F7 : FunD K "flush" "Disk.flush" (defArgs s_Disk_flush) (defBody s_Disk_flush) (defScope s_Disk_flush) [] [] f7 fd7)
    (F8 : FunD K "events" "Disk.events" (defArgs s_Disk_events) (defBody s_Disk_events) (defScope s_Disk_events) [] [] f8 fd8)
    (F9 : FunD K "pending" "Disk.pending" (defArgs s_Disk_pending) (defBody s_Disk_pending) (defScope s_Disk_pending) [] [] f9 fd9)
    (F10 : FunD K "__init__" "Layout.__init__" (defArgs s_Layout_init) (defBody s_Layout_init) (defScope s_Layout_init) [] [] f10 fd10)
    (F11 : FunD K "slots" "Layout.slots" (defArgs s_Layout_slots) (defBody s_Layout_slots) (defScope s_Layout_slots) [] [] f11 fd11)
    (F12 : FunD K "slot_block" "Layout.slot_block" (defArgs s_Layout_slot_block) (defBody s_Layout_slot_block) (defScope s_Layout_slot_block) [] [] f12 fd12)
    (F13 : FunD K "disk_size" "Layout.disk_size" (defArgs s_Layout_disk_size) (defBody s_Layout_disk_size) (defScope s_Layout_disk_size) [] [] f13 fd13)
    (F14 : FunD K "home_block" "Layout.home_block" (defArgs s_Layout_home_block) (defBody s_Layout_home_block) (defScope s_Layout_home_block) [] [] f14 fd14)
    (F15 : FunD K "groups_of" "groups_of" (defArgs s_groups_of) (defBody s_groups_of) (defScope s_groups_of) [] [] f15 fd15)
    (F16 : FunD K "check_homes" "check_homes" (defArgs s_check_homes) (defBody s_check_homes) (defScope s_check_homes) [] [] f16 fd16)
    (F17 : FunD K "check_parts" "check_parts" (defArgs s_check_parts) (defBody s_check_parts) (defScope s_check_parts) [] [] f17 fd17)
    (F18 : FunD K "records_of" "records_of" (defArgs s_records_of) (defBody s_records_of) (defScope s_records_of) [] [] f18 fd18)
    (F19 : FunD K "__init__" "Committed.__init__" (defArgs s_Committed_init) (defBody s_Committed_init) (defScope s_Committed_init) [] [] f19 fd19)
    (F20 : FunD K "forget" "Committed.forget" (defArgs s_Committed_forget) (defBody s_Committed_forget) (defScope s_Committed_forget) [] [] f20 fd20)
    (F21 : FunD K "check_rule" "check_rule" (defArgs s_check_rule) (defBody s_check_rule) (defScope s_check_rule) [] [] f21 fd21)
    (F22 : FunD K "__init__" "Journal.__init__" (defArgs s_Journal_init) (defBody s_Journal_init) (defScope s_Journal_init) [] [("without", .non)] f22 fd22)
    (F23 : FunD K "log" "Journal.log" (defArgs s_Journal_log) (defBody s_Journal_log) (defScope s_Journal_log) [] [] f23 fd23)
    (F24 : FunD K "revoke" "Journal.revoke" (defArgs s_Journal_revoke) (defBody s_Journal_revoke) (defScope s_Journal_revoke) [] [] f24 fd24)
    (F25 : FunD K "running" "Journal.running" (defArgs s_Journal_running) (defBody s_Journal_running) (defScope s_Journal_running) [] [] f25 fd25)
    (F26 : FunD K "numbers" "Journal.numbers" (defArgs s_Journal_numbers) (defBody s_Journal_numbers) (defScope s_Journal_numbers) [] [] f26 fd26)
    (F27 : FunD K "free_slots" "Journal.free_slots" (defArgs s_Journal_free_slots) (defBody s_Journal_free_slots) (defScope s_Journal_free_slots) [] [] f27 fd27)
    (F28 : FunD K "tail_slot" "Journal.tail_slot" (defArgs s_Journal_tail_slot) (defBody s_Journal_tail_slot) (defScope s_Journal_tail_slot) [] [] f28 fd28)
    (F29 : FunD K "flush_by" "Journal.flush_by" (defArgs s_Journal_flush_by) (defBody s_Journal_flush_by) (defScope s_Journal_flush_by) [] [] f29 fd29)
    (F30 : FunD K "needed" "needed" (defArgs s_needed) (defBody s_needed) (defScope s_needed) [] [] f30 fd30)
    (F31 : FunD K "keep" "Journal.keep" (defArgs s_Journal_keep) (defBody s_Journal_keep) (defScope s_Journal_keep) [] [] f31 fd31)
    (F32 : FunD K "checkpoint" "Journal.checkpoint" (defArgs s_Journal_checkpoint) (defBody s_Journal_checkpoint) (defScope s_Journal_checkpoint) [] [] f32 fd32)
    (F33 : FunD K "__init__" "LogError.__init__" (defArgs s_LogError_init) (defBody s_LogError_init) (defScope s_LogError_init) [.str "invalid"] [] f33 fd33)
    (F34 : FunD K "__init__" "NoSpace.__init__" (defArgs s_NoSpace_init) (defBody s_NoSpace_init) (defScope s_NoSpace_init) [] [] f34 fd34)
    (F35 : FunD K "commit" "Journal.commit" (defArgs s_Journal_commit) (defBody s_Journal_commit) (defScope s_Journal_commit) [] [] f35 fd35)
    (F36 : FunD K "homes" "Layout.homes" (defArgs s_Layout_homes) (defBody s_Layout_homes) (defScope s_Layout_homes) [] [] f36 fd36)
    (F37 : FunD K "value" "Journal.value" (defArgs s_Journal_value) (defBody s_Journal_value) (defScope s_Journal_value) [] [] f37 fd37)
    (F38 : FunD K "kept" "Journal.kept" (defArgs s_Journal_kept) (defBody s_Journal_kept) (defScope s_Journal_kept) [] [] f38 fd38)
    (F39 : FunD K "durable" "Disk.durable" (defArgs s_Disk_durable) (defBody s_Disk_durable) (defScope s_Disk_durable) [] [] f39 fd39)
    (F40 : FunD K "_law_cell_at" "_law_cell_at" (defArgs s_law_cell_at) (defBody s_law_cell_at) (defScope s_law_cell_at) [] [] f40 fd40)
    (F41 : FunD K "_law_source" "_law_source" (defArgs s_law_source) (defBody s_law_source) (defScope s_law_source) [] [] f41 fd41)
    (F42 : FunD K "_law_draw" "_law_draw" (defArgs s_law_draw) (defBody s_law_draw) (defScope s_law_draw) [] [] f42 fd42)
    (F43 : FunD K "_law_values" "_law_values" (defArgs s_law_values) (defBody s_law_values) (defScope s_law_values) [] [] f43 fd43)
    (F44 : FunD K "_law_kept_right" "_law_kept_right" (defArgs s_law_kept_right) (defBody s_law_kept_right) (defScope s_law_kept_right) [] [] f44 fd44)
    (F45 : FunD K "_law_checkpoint_right" "_law_checkpoint_right" (defArgs s_law_checkpoint_right) (defBody s_law_checkpoint_right) (defScope s_law_checkpoint_right) [] [] f45 fd45)
    (F46 : FunD K "_law_commit" "_law_commit" (defArgs s_law_commit) (defBody s_law_commit) (defScope s_law_commit) [] [] f46 fd46)
    (F47 : FunD K "_law_step" "_law_step" (defArgs s_law_step) (defBody s_law_step) (defScope s_law_step) [] [] f47 fd47)
    (F48 : FunD K "law" "law" (defArgs s_law) (defBody s_law) (defScope s_law) [] [] f48 fd48)
    (aC_Disk : PySem.W.nsIn K mainGlobals "Disk" = some (some (.ref CDisk)))
    (pg_Disk : PySem.W.plainGet K CDisk Str.empty = true)
    (hd_Disk : PySem.W.hasDictIn K CDisk = true)
    (po_Disk : PySem.W.plainOver K CDisk = true)
    (sa_Disk : PySem.W.findIn K (.ref CDisk) "__setattr__" = some (some (.builtin "object.__setattr__")))
    (mk_Disk : PySem.W.makesIn K CDisk = true)
    (kc_Disk : PySem.W.keepIn K (.ref CDisk) = true)
    (no_Disk_first : PySem.W.findIn K (.ref CDisk) "first" = some none)
    (no_Disk_safe : PySem.W.findIn K (.ref CDisk) "safe" = some none)
    (no_Disk_writes : PySem.W.findIn K (.ref CDisk) "writes" = some none)
    (no_Disk_deeds : PySem.W.findIn K (.ref CDisk) "deeds" = some none)
    (aC_Layout : PySem.W.nsIn K mainGlobals "Layout" = some (some (.ref CLayout)))
    (pg_Layout : PySem.W.plainGet K CLayout Str.empty = true)
    (hd_Layout : PySem.W.hasDictIn K CLayout = true)
    (po_Layout : PySem.W.plainOver K CLayout = true)
    (sa_Layout : PySem.W.findIn K (.ref CLayout) "__setattr__" = some (some (.builtin "object.__setattr__")))
    (mk_Layout : PySem.W.makesIn K CLayout = true)
    (kc_Layout : PySem.W.keepIn K (.ref CLayout) = true)
    (no_Layout_ring : PySem.W.findIn K (.ref CLayout) "ring" = some none)
    (no_Layout_places : PySem.W.findIn K (.ref CLayout) "places" = some none)
    (aC_Committed : PySem.W.nsIn K mainGlobals "Committed" = some (some (.ref CCommitted)))
    (pg_Committed : PySem.W.plainGet K CCommitted Str.empty = true)
    (hd_Committed : PySem.W.hasDictIn K CCommitted = true)
    (po_Committed : PySem.W.plainOver K CCommitted = true)
    (sa_Committed : PySem.W.findIn K (.ref CCommitted) "__setattr__" = some (some (.builtin "object.__setattr__")))
    (mk_Committed : PySem.W.makesIn K CCommitted = true)
    (kc_Committed : PySem.W.keepIn K (.ref CCommitted) = true)
    (no_Committed_label : PySem.W.findIn K (.ref CCommitted) "label" = some none)
    (no_Committed_size : PySem.W.findIn K (.ref CCommitted) "size" = some none)
    (no_Committed_copies : PySem.W.findIn K (.ref CCommitted) "copies" = some none)
    (no_Committed_revokes : PySem.W.findIn K (.ref CCommitted) "revokes" = some none)
    (no_Committed_left : PySem.W.findIn K (.ref CCommitted) "left" = some none)
    (aC_Journal : PySem.W.nsIn K mainGlobals "Journal" = some (some (.ref CJournal)))
    (pg_Journal : PySem.W.plainGet K CJournal Str.empty = true)
    (hd_Journal : PySem.W.hasDictIn K CJournal = true)
    (po_Journal : PySem.W.plainOver K CJournal = true)
    (sa_Journal : PySem.W.findIn K (.ref CJournal) "__setattr__" = some (some (.builtin "object.__setattr__")))
    (mk_Journal : PySem.W.makesIn K CJournal = true)
    (kc_Journal : PySem.W.keepIn K (.ref CJournal) = true)
    (no_Journal_plan : PySem.W.findIn K (.ref CJournal) "plan" = some none)
    (no_Journal_medium : PySem.W.findIn K (.ref CJournal) "medium" = some none)
    (no_Journal_without : PySem.W.findIn K (.ref CJournal) "without" = some none)
    (no_Journal_next_number : PySem.W.findIn K (.ref CJournal) "next_number" = some none)
    (no_Journal_head : PySem.W.findIn K (.ref CJournal) "head" = some none)
    (no_Journal_log_kept : PySem.W.findIn K (.ref CJournal) "log_kept" = some none)
    (no_Journal_new_copies : PySem.W.findIn K (.ref CJournal) "new_copies" = some none)
    (no_Journal_new_revokes : PySem.W.findIn K (.ref CJournal) "new_revokes" = some none)
    (a0 : PySem.W.nsIn K mainGlobals "is_integer" = some (some (.ref f0)))
    (a1 : PySem.W.nsIn K mainGlobals "is_between" = some (some (.ref f1)))
    (a2 : PySem.W.nsIn K mainGlobals "is_value" = some (some (.ref f2)))
    (a3 : PySem.W.findIn K (.ref CDisk) "__init__" = some (some (.ref f3)))
    (i3 : PySem.W.isFn K (.ref f3) = true)
    (a4 : PySem.W.findIn K (.ref CDisk) "check_block" = some (some (.ref f4)))
    (i4 : PySem.W.isFn K (.ref f4) = true)
    (a5 : PySem.W.findIn K (.ref CDisk) "read" = some (some (.ref f5)))
    (i5 : PySem.W.isFn K (.ref f5) = true)
    (a6 : PySem.W.findIn K (.ref CDisk) "write" = some (some (.ref f6)))
    (i6 : PySem.W.isFn K (.ref f6) = true)
    (a7 : PySem.W.findIn K (.ref CDisk) "flush" = some (some (.ref f7)))
    (i7 : PySem.W.isFn K (.ref f7) = true)
    (a8 : PySem.W.findIn K (.ref CDisk) "events" = some (some (.ref f8)))
    (i8 : PySem.W.isFn K (.ref f8) = true)
    (a9 : PySem.W.findIn K (.ref CDisk) "pending" = some (some (.ref f9)))
    (i9 : PySem.W.isFn K (.ref f9) = true)
    (a10 : PySem.W.findIn K (.ref CLayout) "__init__" = some (some (.ref f10)))
    (i10 : PySem.W.isFn K (.ref f10) = true)
    (a11 : PySem.W.findIn K (.ref CLayout) "slots" = some (some (.ref f11)))
    (i11 : PySem.W.isFn K (.ref f11) = true)
    (a12 : PySem.W.findIn K (.ref CLayout) "slot_block" = some (some (.ref f12)))
    (i12 : PySem.W.isFn K (.ref f12) = true)
    (a13 : PySem.W.findIn K (.ref CLayout) "disk_size" = some (some (.ref f13)))
    (i13 : PySem.W.isFn K (.ref f13) = true)
    (a14 : PySem.W.findIn K (.ref CLayout) "home_block" = some (some (.ref f14)))
    (i14 : PySem.W.isFn K (.ref f14) = true)
    (a15 : PySem.W.nsIn K mainGlobals "groups_of" = some (some (.ref f15)))
    (a16 : PySem.W.nsIn K mainGlobals "check_homes" = some (some (.ref f16)))
    (a17 : PySem.W.nsIn K mainGlobals "check_parts" = some (some (.ref f17)))
    (a18 : PySem.W.nsIn K mainGlobals "records_of" = some (some (.ref f18)))
    (a19 : PySem.W.findIn K (.ref CCommitted) "__init__" = some (some (.ref f19)))
    (i19 : PySem.W.isFn K (.ref f19) = true)
    (a20 : PySem.W.findIn K (.ref CCommitted) "forget" = some (some (.ref f20)))
    (i20 : PySem.W.isFn K (.ref f20) = true)
    (a21 : PySem.W.nsIn K mainGlobals "check_rule" = some (some (.ref f21)))
    (a22 : PySem.W.findIn K (.ref CJournal) "__init__" = some (some (.ref f22)))
    (i22 : PySem.W.isFn K (.ref f22) = true)
    (a23 : PySem.W.findIn K (.ref CJournal) "log" = some (some (.ref f23)))
    (i23 : PySem.W.isFn K (.ref f23) = true)
    (a24 : PySem.W.findIn K (.ref CJournal) "revoke" = some (some (.ref f24)))
    (i24 : PySem.W.isFn K (.ref f24) = true)
    (a25 : PySem.W.findIn K (.ref CJournal) "running" = some (some (.ref f25)))
    (i25 : PySem.W.isFn K (.ref f25) = true)
    (a26 : PySem.W.findIn K (.ref CJournal) "numbers" = some (some (.ref f26)))
    (i26 : PySem.W.isFn K (.ref f26) = true)
    (a27 : PySem.W.findIn K (.ref CJournal) "free_slots" = some (some (.ref f27)))
    (i27 : PySem.W.isFn K (.ref f27) = true)
    (a28 : PySem.W.findIn K (.ref CJournal) "tail_slot" = some (some (.ref f28)))
    (i28 : PySem.W.isFn K (.ref f28) = true)
    (a29 : PySem.W.findIn K (.ref CJournal) "flush_by" = some (some (.ref f29)))
    (i29 : PySem.W.isFn K (.ref f29) = true)
    (a30 : PySem.W.nsIn K mainGlobals "needed" = some (some (.ref f30)))
    (a31 : PySem.W.findIn K (.ref CJournal) "keep" = some (some (.ref f31)))
    (i31 : PySem.W.isFn K (.ref f31) = true)
    (a32 : PySem.W.findIn K (.ref CJournal) "checkpoint" = some (some (.ref f32)))
    (i32 : PySem.W.isFn K (.ref f32) = true)
    (a33 : PySem.W.findIn K (.ref CLogError) "__init__" = some (some (.ref f33)))
    (i33 : PySem.W.isFn K (.ref f33) = true)
    (a34 : PySem.W.findIn K (.ref CNoSpace) "__init__" = some (some (.ref f34)))
    (i34 : PySem.W.isFn K (.ref f34) = true)
    (a35 : PySem.W.findIn K (.ref CJournal) "commit" = some (some (.ref f35)))
    (i35 : PySem.W.isFn K (.ref f35) = true)
    (a36 : PySem.W.findIn K (.ref CLayout) "homes" = some (some (.ref f36)))
    (i36 : PySem.W.isFn K (.ref f36) = true)
    (a37 : PySem.W.findIn K (.ref CJournal) "value" = some (some (.ref f37)))
    (i37 : PySem.W.isFn K (.ref f37) = true)
    (a38 : PySem.W.findIn K (.ref CJournal) "kept" = some (some (.ref f38)))
    (i38 : PySem.W.isFn K (.ref f38) = true)
    (a39 : PySem.W.findIn K (.ref CDisk) "durable" = some (some (.ref f39)))
    (i39 : PySem.W.isFn K (.ref f39) = true)
    (a40 : PySem.W.nsIn K mainGlobals "_law_cell_at" = some (some (.ref f40)))
    (a41 : PySem.W.nsIn K mainGlobals "_law_source" = some (some (.ref f41)))
    (a42 : PySem.W.nsIn K mainGlobals "_law_draw" = some (some (.ref f42)))
    (a43 : PySem.W.nsIn K mainGlobals "_law_values" = some (some (.ref f43)))
    (a44 : PySem.W.nsIn K mainGlobals "_law_kept_right" = some (some (.ref f44)))
    (a45 : PySem.W.nsIn K mainGlobals "_law_checkpoint_right" = some (some (.ref f45)))
    (a46 : PySem.W.nsIn K mainGlobals "_law_commit" = some (some (.ref f46)))
    (a47 : PySem.W.nsIn K mainGlobals "_law_step" = some (some (.ref f47)))
    (a48 : PySem.W.nsIn K mainGlobals "law" = some (some (.ref f48)))
    (v_MOST_BLOCKS : (He.Fa.int "MOST_BLOCKS" 128).ok K = true)
    (v_MOST_NESTED : (He.Fa.int "MOST_NESTED" 8).ok K = true)
    (v_LEAST_SLOTS : (He.Fa.int "LEAST_SLOTS" 8).ok K = true)
    (v_MOST_SLOTS : (He.Fa.int "MOST_SLOTS" 64).ok K = true)
    (v_LEAST_HOMES : (He.Fa.int "LEAST_HOMES" 4).ok K = true)
    (v_MOST_HOMES : (He.Fa.int "MOST_HOMES" 32).ok K = true)
    (v_GROUP : (He.Fa.int "GROUP" 8).ok K = true)
    (v_RECORD_DEPTH : (He.Fa.int "RECORD_DEPTH" 1).ok K = true)
    (z_int : PySem.W.nsIn K mainGlobals "int" = some none)
    (z_len : PySem.W.nsIn K mainGlobals "len" = some none)
    (z_list : PySem.W.nsIn K mainGlobals "list" = some none)
    (z_range : PySem.W.nsIn K mainGlobals "range" = some none)
    (z_repr : PySem.W.nsIn K mainGlobals "repr" = some none)
    (z_tuple : PySem.W.nsIn K mainGlobals "tuple" = some none)
    (z_isinstance : PySem.W.nsIn K mainGlobals "isinstance" = some none)
    (z_all : PySem.W.nsIn K mainGlobals "all" = some none)
    (z_zip : PySem.W.nsIn K mainGlobals "zip" = some none)
    (z_str : PySem.W.nsIn K mainGlobals "str" = some none)
    (z_bool : PySem.W.nsIn K mainGlobals "bool" = some none)
    (z_enumerate : PySem.W.nsIn K mainGlobals "enumerate" = some none)
    (z_dict : PySem.W.nsIn K mainGlobals "dict" = some none)
    (z_sorted : PySem.W.nsIn K mainGlobals "sorted" = some none)
    (z_sum : PySem.W.nsIn K mainGlobals "sum" = some none)
    (z_reversed : PySem.W.nsIn K mainGlobals "reversed" = some none)
    (z_ValueError : PySem.W.nsIn K mainGlobals "ValueError" = some none)
    (aC_NoSpace : PySem.W.nsIn K mainGlobals "NoSpace" = some (some (.ref CNoSpace)))
    (aC_LogError : PySem.W.nsIn K mainGlobals "LogError" = some (some (.ref CLogError)))
    (oT_NoSpace : OexC K CNoSpace)
    (sa_NoSpace : PySem.W.findIn K (.ref CNoSpace) "__setattr__" = some (some (.builtin "object.__setattr__")))
    (ga_NoSpace : PySem.W.findIn K (.ref CNoSpace) "__getattribute__" = some (some (.builtin "BaseException.__getattribute__")))
    (gg_NoSpace : PySem.W.findIn K (.ref CNoSpace) "__getattr__" = some none)
    (kC_NoSpace : PySem.W.keepIn K (.ref CNoSpace) = true)
    (eC_NoSpace : PySem.W.subIn K (.ref CNoSpace) (.type "BaseException") = some true)
    (tC_NoSpace : PySem.W.typeIn K (.ref CNoSpace) = some (.type "type"))
    (hC_NoSpace : PySem.W.hasDictIn K CNoSpace = true)
    (iC_NoSpace : PySem.W.isClsIn K CNoSpace = true)
    (sC_NoSpace : PySem.W.subIn K (.ref CNoSpace) (.ref CNoSpace) = some true)
    (nf_NoSpace_why : PySem.W.findIn K (.ref CNoSpace) "why" = some none)
    (nf_NoSpace_needed : PySem.W.findIn K (.ref CNoSpace) "needed" = some none)
    (nf_NoSpace_free : PySem.W.findIn K (.ref CNoSpace) "free" = some none)
    (ti_NoSpace : PySem.W.typeIn K (.ref f34) = some (.type "function"))
    (rd_LogError : PySem.W.readsIn K CLogError (.type "type") = true)
    (sg_LogError : PySem.W.specialIn K (.ref CLogError) "__getattribute__" = some (some (.builtin "type.__getattribute__")))
    (fc_LogError : PySem.W.findCls K (.ref CLogError) (.type "type") "__init__" = some (.val (.ref f33)))
    (vV : PySem.W.findCls K (.type "ValueError") (.type "type") "__init__" = some (.val (.builtin "ValueError.__init__")))
    : ∃ fd : FuncData, (∀ (s : Shared) (v : Value), BindsTo s fd ⟨[v], []⟩ [("_law_script", v)]) ∧ ∀ base : Heap, K.In base → base.Ns mainGlobals mg → FnG P w K mg base CX0 22 fa fd ["_law_script"] (spLaw K) := by
  have e := hfa.symm.trans (PySem.W.mg_of X G a48)
  cases e
  have k0 := F0.kp
  have k1 := F1.kp
  have k2 := F2.kp
  have k3 := F3.kp
  have k4 := F4.kp
  have k5 := F5.kp
  have k6 := F6.kp
  have k7 := F7.kp
  have k8 := F8.kp
  have k9 := F9.kp
  have k10 := F10.kp
  have k11 := F11.kp
  have k12 := F12.kp
  have k13 := F13.kp
  have k14 := F14.kp
  have k15 := F15.kp
  have k16 := F16.kp
  have k17 := F17.kp
  have k18 := F18.kp
  have k19 := F19.kp
  have k20 := F20.kp
  have k21 := F21.kp
  have k22 := F22.kp
  have k23 := F23.kp
  have k24 := F24.kp
  have k25 := F25.kp
  have k26 := F26.kp
  have k27 := F27.kp
  have k28 := F28.kp
  have k29 := F29.kp
  have k30 := F30.kp
  have k31 := F31.kp
  have k32 := F32.kp
  have k33 := F33.kp
  have k34 := F34.kp
  have k35 := F35.kp
  have k36 := F36.kp
  have k37 := F37.kp
  have k38 := F38.kp
  have k39 := F39.kp
  have k40 := F40.kp
  have k41 := F41.kp
  have k42 := F42.kp
  have k43 := F43.kp
  have k44 := F44.kp
  have k45 := F45.kp
  have k46 := F46.kp
  have k47 := F47.kp
  have k48 := F48.kp
  have B : Bl mg := ⟨PySem.W.mg_none_of X G z_int, PySem.W.mg_none_of X G z_len, PySem.W.mg_none_of X G z_list, PySem.W.mg_none_of X G z_range, PySem.W.mg_none_of X G z_repr, PySem.W.mg_none_of X G z_tuple, PySem.W.mg_none_of X G z_isinstance, PySem.W.mg_none_of X G z_all, PySem.W.mg_none_of X G z_zip, PySem.W.mg_none_of X G z_str, PySem.W.mg_none_of X G z_bool, PySem.W.mg_none_of X G z_enumerate, PySem.W.mg_none_of X G z_dict, PySem.W.mg_none_of X G z_sorted, PySem.W.mg_none_of X G z_sum, PySem.W.mg_none_of X G z_reversed, PySem.W.mg_none_of X G z_ValueError⟩
  have G_ : Gi mg := ⟨He.int_ok X G v_MOST_BLOCKS, He.int_ok X G v_MOST_NESTED, He.int_ok X G v_LEAST_SLOTS, He.int_ok X G v_MOST_SLOTS, He.int_ok X G v_LEAST_HOMES, He.int_ok X G v_MOST_HOMES, He.int_ok X G v_GROUP, He.int_ok X G v_RECORD_DEPTH⟩
  have cl_Disk : Cls K CDisk := ⟨pg_Disk, hd_Disk, po_Disk, sa_Disk⟩
  have T_Disk : TDisk K CDisk := ⟨cl_Disk, no_Disk_first, no_Disk_safe, no_Disk_writes, no_Disk_deeds⟩
  have cl_Layout : Cls K CLayout := ⟨pg_Layout, hd_Layout, po_Layout, sa_Layout⟩
  have T_Layout : TLay K CLayout := ⟨cl_Layout, no_Layout_ring, no_Layout_places⟩
  have cl_Committed : Cls K CCommitted := ⟨pg_Committed, hd_Committed, po_Committed, sa_Committed⟩
  have T_Committed : TKp K CCommitted := ⟨cl_Committed, no_Committed_label, no_Committed_size, no_Committed_copies, no_Committed_revokes, no_Committed_left⟩
  have cl_Journal : Cls K CJournal := ⟨pg_Journal, hd_Journal, po_Journal, sa_Journal⟩
  have T_Journal : TJn K CJournal := ⟨cl_Journal, no_Journal_plan, no_Journal_medium, no_Journal_without, no_Journal_next_number, no_Journal_head, no_Journal_log_kept, no_Journal_new_copies, no_Journal_new_revokes⟩
  have xf_NoSpace : XfC K CNoSpace := ⟨ga_NoSpace, gg_NoSpace, eC_NoSpace, hC_NoSpace⟩
  have ex_NoSpace := exm_self eC_NoSpace iC_NoSpace tC_NoSpace sC_NoSpace
  have gC_NoSpace := PySem.W.mg_of X G aC_NoSpace
  have xn_NoSpace : ∀ n ∈ (["why", "needed", "free"] : List Str), PySem.W.findIn K (.ref CNoSpace) n = some none := fun n hn => by
    simp only [List.mem_cons, List.not_mem_nil, or_false] at hn
    rcases hn with rfl | rfl | rfl
    · exact nf_NoSpace_why
    · exact nf_NoSpace_needed
    · exact nf_NoSpace_free
  have F_is_integer := fun_of (st := s_is_integer) F0
  have b_is_integer := F_is_integer.binds (ps := ["value"]) fun _ _ _ _ _ _ us hl => match us, hl with | [_], _ => rfl
  have F_is_between := fun_of (st := s_is_between) F1
  have kb_is_between : KBn K fd1 ["value", "low", "high"] 1 ["low", "high"] (fun us ws => us ++ ws) (fun vs zs => vs ++ zs) := kbn_of F_is_between fun _ _ _ _ _ _ => ⟨fun s us ws _ h1 h2 => match us, ws, h1, h2 with | [_], [_, _], _, _ => .of_eq (by rfl), fun r1 r2 => r1.append r2⟩
  have F_is_value := F2
  have b_is_value : Binds K fd2 ["value", "depth"] [] := by
    obtain ⟨ds, hv, hb⟩ := F_is_value.binds1 (ps := ["value", "depth"]) 2 1 (by simp) rfl (fun _ _ _ _ _ _ _ us its hl hi => match us, its, hl, hi with | [_, _], [_], _, _ => ⟨_, rfl, rfl⟩)
    cases hv
    exact hb
  obtain ⟨ds_is_value, v_is_value, d_is_value⟩ := F_is_value.binds1 (ps := ["value", "depth"]) 1 0 (by simp) rfl (fun _ _ _ _ _ _ _ us its hl hi => match us, its, hl, hi with | [_], [_], _, _ => ⟨_, rfl, rfl⟩)
  have F_Disk_init := fun_of (st := s_Disk_init) F3
  have b_Disk_init := F_Disk_init.binds (ps := ["self", "blocks"]) fun _ _ _ _ _ _ us hl => match us, hl with | [_, _], _ => rfl
  have F_Disk_check_block := fun_of (st := s_Disk_check_block) F4
  have b_Disk_check_block := F_Disk_check_block.binds (ps := ["self", "block"]) fun _ _ _ _ _ _ us hl => match us, hl with | [_, _], _ => rfl
  have F_Disk_read := fun_of (st := s_Disk_read) F5
  have b_Disk_read := F_Disk_read.binds (ps := ["self", "block"]) fun _ _ _ _ _ _ us hl => match us, hl with | [_, _], _ => rfl
  have F_Disk_write := fun_of (st := s_Disk_write) F6
  have b_Disk_write := F_Disk_write.binds (ps := ["self", "block", "value"]) fun _ _ _ _ _ _ us hl => match us, hl with | [_, _, _], _ => rfl
  have F_Disk_flush := fun_of (st := s_Disk_flush) F7
  have b_Disk_flush := F_Disk_flush.binds (ps := ["self"]) fun _ _ _ _ _ _ us hl => match us, hl with | [_], _ => rfl
  have F_Disk_events := fun_of (st := s_Disk_events) F8
  have b_Disk_events := F_Disk_events.binds (ps := ["self"]) fun _ _ _ _ _ _ us hl => match us, hl with | [_], _ => rfl
  have F_Disk_pending := fun_of (st := s_Disk_pending) F9
  have b_Disk_pending := F_Disk_pending.binds (ps := ["self"]) fun _ _ _ _ _ _ us hl => match us, hl with | [_], _ => rfl
  have F_Layout_init := fun_of (st := s_Layout_init) F10
  have b_Layout_init := F_Layout_init.binds (ps := ["self", "slots", "homes"]) fun _ _ _ _ _ _ us hl => match us, hl with | [_, _, _], _ => rfl
  have F_Layout_slots := fun_of (st := s_Layout_slots) F11
  have b_Layout_slots := F_Layout_slots.binds (ps := ["self"]) fun _ _ _ _ _ _ us hl => match us, hl with | [_], _ => rfl
  have F_Layout_slot_block := fun_of (st := s_Layout_slot_block) F12
  have b_Layout_slot_block := F_Layout_slot_block.binds (ps := ["self", "slot"]) fun _ _ _ _ _ _ us hl => match us, hl with | [_, _], _ => rfl
  have F_Layout_disk_size := fun_of (st := s_Layout_disk_size) F13
  have b_Layout_disk_size := F_Layout_disk_size.binds (ps := ["self"]) fun _ _ _ _ _ _ us hl => match us, hl with | [_], _ => rfl
  have F_Layout_home_block := fun_of (st := s_Layout_home_block) F14
  have b_Layout_home_block := F_Layout_home_block.binds (ps := ["self", "home"]) fun _ _ _ _ _ _ us hl => match us, hl with | [_, _], _ => rfl
  have F_groups_of := fun_of (st := s_groups_of) F15
  have b_groups_of := F_groups_of.binds (ps := ["items"]) fun _ _ _ _ _ _ us hl => match us, hl with | [_], _ => rfl
  have F_check_homes := fun_of (st := s_check_homes) F16
  have b_check_homes := F_check_homes.binds (ps := ["homes"]) fun _ _ _ _ _ _ us hl => match us, hl with | [_], _ => rfl
  have F_check_parts := fun_of (st := s_check_parts) F17
  have b_check_parts := F_check_parts.binds (ps := ["copies", "revokes"]) fun _ _ _ _ _ _ us hl => match us, hl with | [_, _], _ => rfl
  have F_records_of := fun_of (st := s_records_of) F18
  have b_records_of := F_records_of.binds (ps := ["number", "copies", "revokes"]) fun _ _ _ _ _ _ us hl => match us, hl with | [_, _, _], _ => rfl
  have F_Committed_init := fun_of (st := s_Committed_init) F19
  have b_Committed_init := F_Committed_init.binds (ps := ["self", "number", "size", "copies", "revokes"]) fun _ _ _ _ _ _ us hl => match us, hl with | [_, _, _, _, _], _ => rfl
  have F_Committed_forget := fun_of (st := s_Committed_forget) F20
  have b_Committed_forget := F_Committed_forget.binds (ps := ["self", "homes"]) fun _ _ _ _ _ _ us hl => match us, hl with | [_, _], _ => rfl
  have F_check_rule := fun_of (st := s_check_rule) F21
  have b_check_rule := F_check_rule.binds (ps := ["rule"]) fun _ _ _ _ _ _ us hl => match us, hl with | [_], _ => rfl
  have F_Journal_init := F22
  obtain ⟨ds_Journal_init, v_Journal_init, d_Journal_init⟩ := F_Journal_init.binds0 (ps := ["self", "layout", "disk", "without"]) 3 (by simp) rfl (fun D doc pm an cdv ct us ks hl hk => match us, ks, hl, hk with | [_, _, _], [_], _, _ => ⟨_, _, _, _, _, _, rfl, rfl, rfl⟩)
  have F_Journal_log := fun_of (st := s_Journal_log) F23
  have b_Journal_log := F_Journal_log.binds (ps := ["self", "home", "value"]) fun _ _ _ _ _ _ us hl => match us, hl with | [_, _, _], _ => rfl
  have F_Journal_revoke := fun_of (st := s_Journal_revoke) F24
  have b_Journal_revoke := F_Journal_revoke.binds (ps := ["self", "home"]) fun _ _ _ _ _ _ us hl => match us, hl with | [_, _], _ => rfl
  have F_Journal_running := fun_of (st := s_Journal_running) F25
  have b_Journal_running := F_Journal_running.binds (ps := ["self"]) fun _ _ _ _ _ _ us hl => match us, hl with | [_], _ => rfl
  have F_Journal_numbers := fun_of (st := s_Journal_numbers) F26
  have b_Journal_numbers := F_Journal_numbers.binds (ps := ["self"]) fun _ _ _ _ _ _ us hl => match us, hl with | [_], _ => rfl
  have F_Journal_free_slots := fun_of (st := s_Journal_free_slots) F27
  have b_Journal_free_slots := F_Journal_free_slots.binds (ps := ["self"]) fun _ _ _ _ _ _ us hl => match us, hl with | [_], _ => rfl
  have F_Journal_tail_slot := fun_of (st := s_Journal_tail_slot) F28
  have b_Journal_tail_slot := F_Journal_tail_slot.binds (ps := ["self"]) fun _ _ _ _ _ _ us hl => match us, hl with | [_], _ => rfl
  have F_Journal_flush_by := fun_of (st := s_Journal_flush_by) F29
  have b_Journal_flush_by := F_Journal_flush_by.binds (ps := ["self", "rule"]) fun _ _ _ _ _ _ us hl => match us, hl with | [_, _], _ => rfl
  have F_needed := fun_of (st := s_needed) F30
  have b_needed := F_needed.binds (ps := ["journal"]) fun _ _ _ _ _ _ us hl => match us, hl with | [_], _ => rfl
  have F_Journal_keep := fun_of (st := s_Journal_keep) F31
  have b_Journal_keep := F_Journal_keep.binds (ps := ["self", "one", "freed"]) fun _ _ _ _ _ _ us hl => match us, hl with | [_, _, _], _ => rfl
  have F_Journal_checkpoint := fun_of (st := s_Journal_checkpoint) F32
  have b_Journal_checkpoint := F_Journal_checkpoint.binds (ps := ["self"]) fun _ _ _ _ _ _ us hl => match us, hl with | [_], _ => rfl
  have F_LogError_init := F33
  have b_LogError_init : Binds K fd33 ["self", "why"] [] := by
    obtain ⟨ds, hv, hb⟩ := F_LogError_init.binds1 (ps := ["self", "why"]) 2 1 (by simp) rfl (fun _ _ _ _ _ _ _ us its hl hi => match us, its, hl, hi with | [_, _], [_], _, _ => ⟨_, rfl, rfl⟩)
    cases hv
    exact hb
  have F_NoSpace_init := fun_of (st := s_NoSpace_init) F34
  have b_NoSpace_init := F_NoSpace_init.binds (ps := ["self", "needed", "free"]) fun _ _ _ _ _ _ us hl => match us, hl with | [_, _, _], _ => rfl
  have F_Journal_commit := fun_of (st := s_Journal_commit) F35
  have b_Journal_commit := F_Journal_commit.binds (ps := ["self"]) fun _ _ _ _ _ _ us hl => match us, hl with | [_], _ => rfl
  have F_Layout_homes := fun_of (st := s_Layout_homes) F36
  have b_Layout_homes := F_Layout_homes.binds (ps := ["self"]) fun _ _ _ _ _ _ us hl => match us, hl with | [_], _ => rfl
  have F_Journal_value := fun_of (st := s_Journal_value) F37
  have b_Journal_value := F_Journal_value.binds (ps := ["self", "home"]) fun _ _ _ _ _ _ us hl => match us, hl with | [_, _], _ => rfl
  have F_Journal_kept := fun_of (st := s_Journal_kept) F38
  have b_Journal_kept := F_Journal_kept.binds (ps := ["self"]) fun _ _ _ _ _ _ us hl => match us, hl with | [_], _ => rfl
  have F_Disk_durable := fun_of (st := s_Disk_durable) F39
  have b_Disk_durable := F_Disk_durable.binds (ps := ["self"]) fun _ _ _ _ _ _ us hl => match us, hl with | [_], _ => rfl
  have F_law_cell_at := fun_of (st := s_law_cell_at) F40
  have b_law_cell_at := F_law_cell_at.binds (ps := ["_law_script", "_law_k"]) fun _ _ _ _ _ _ us hl => match us, hl with | [_, _], _ => rfl
  have F_law_source := fun_of (st := s_law_source) F41
  have b_law_source := F_law_source.binds (ps := ["_law_cell"]) fun _ _ _ _ _ _ us hl => match us, hl with | [_], _ => rfl
  have F_law_draw := fun_of (st := s_law_draw) F42
  have b_law_draw := F_law_draw.binds (ps := ["_law_source_here", "_law_size"]) fun _ _ _ _ _ _ us hl => match us, hl with | [_, _], _ => rfl
  have F_law_values := fun_of (st := s_law_values) F43
  have b_law_values := F_law_values.binds (ps := ["_law_journal", "_law_homes"]) fun _ _ _ _ _ _ us hl => match us, hl with | [_, _], _ => rfl
  have F_law_kept_right := fun_of (st := s_law_kept_right) F44
  have b_law_kept_right := F_law_kept_right.binds (ps := ["_law_w", "_law_many"]) fun _ _ _ _ _ _ us hl => match us, hl with | [_, _], _ => rfl
  have F_law_checkpoint_right := fun_of (st := s_law_checkpoint_right) F45
  have b_law_checkpoint_right := F_law_checkpoint_right.binds (ps := ["_law_w"]) fun _ _ _ _ _ _ us hl => match us, hl with | [_], _ => rfl
  have F_law_commit := fun_of (st := s_law_commit) F46
  have b_law_commit := F_law_commit.binds (ps := ["_law_w"]) fun _ _ _ _ _ _ us hl => match us, hl with | [_], _ => rfl
  have F_law_step := fun_of (st := s_law_step) F47
  have b_law_step := F_law_step.binds (ps := ["_law_source_here", "_law_w"]) fun _ _ _ _ _ _ us hl => match us, hl with | [_, _], _ => rfl
  have F_law := fun_of (st := s_law) F48
  refine ⟨fd48, bindsTo_of F_law fun _ _ _ _ _ _ s v => .of_eq rfl, fun base _ _ => ?_⟩
  have C_is_integer : ClW P w K mg base 1 "is_integer" (spIsInt K) := ⟨_, _, _, ok_is_integer F_is_integer B, PySem.W.mg_of X G a0, k0, b_is_integer⟩
  have K_is_between : ClKW P w K mg base 2 "is_between" 1 ["low", "high"] (spBet K) := ⟨_, _, _, _, _, ok_is_between F_is_between C_is_integer, PySem.W.mg_of X G a1, k1, kb_is_between, rfl⟩
  have V_is_value : ∀ m : Nat, ClW P w K mg base (m + 1) "is_value" (spVal K m) := fun m => by
    induction m with
    | zero =>
      have no : ∀ vs H Q E, spVal K 0 vs H Q E → False := fun vs H Q E h => by
        obtain ⟨_, _, _, dep, _, _, _, h1, h2, _⟩ := h
        omega
      exact ⟨_, _, ["value", "depth"], ⟨fun vs H Q E h => (no vs H Q E h).elim, fun _ _ _ _ _ _ _ _ _ _ _ _ _ _ h => (no _ _ _ _ h).elim⟩, PySem.W.mg_of X G a2, k2, b_is_value⟩
    | succ m ih => exact ⟨_, _, _, ok_is_value F_is_value B G_ C_is_integer ih, PySem.W.mg_of X G a2, k2, b_is_value⟩
  have W_is_value := ok_is_value F_is_value B G_ C_is_integer (V_is_value 8)
  have C_is_value : ClW P w K mg base 11 "is_value" (spVal K 9) := ⟨_, _, _, W_is_value.mono (by decide), PySem.W.mg_of X G a2, k2, b_is_value⟩
  have D_is_value : CalW P w K mg base 11 "is_value" (spVal K 9) [.int 0] := ⟨_, _, _, _, W_is_value.mono (by decide), PySem.W.mg_of X G a2, k2, d_is_value, v_is_value⟩
  have N_Disk : MakW P w K mg base 3 "Disk" CDisk (spDiskInit K CDisk) [] := ⟨_, _, _, _, ⟨mk_Disk, a3, i3, kc_Disk⟩, ok_Disk_init F_Disk_init G_ T_Disk K_is_between, PySem.W.mg_of X G aC_Disk, b_Disk_init, .nil⟩
  have M_Disk_check_block : MetW P w K mg base 3 CDisk "check_block" (spCheck K CDisk) [] := ⟨_, _, _, _, cl_Disk, ⟨a4, i4, k4⟩, ok_Disk_check F_Disk_check_block B T_Disk K_is_between, b_Disk_check_block, .nil⟩
  have M_Disk_read : MetW P w K mg base 4 CDisk "read" (spRead K CDisk) [] := ⟨_, _, _, _, cl_Disk, ⟨a5, i5, k5⟩, ok_Disk_read F_Disk_read T_Disk M_Disk_check_block, b_Disk_read, .nil⟩
  have M_Disk_write : MetW P w K mg base 12 CDisk "write" (spWrite K CDisk) [] := ⟨_, _, _, _, cl_Disk, ⟨a6, i6, k6⟩, ok_Disk_write F_Disk_write T_Disk M_Disk_check_block D_is_value, b_Disk_write, .nil⟩
  have M_Disk_flush : MetW P w K mg base 1 CDisk "flush" (spFlush K CDisk) [] := ⟨_, _, _, _, cl_Disk, ⟨a7, i7, k7⟩, ok_Disk_flush F_Disk_flush T_Disk, b_Disk_flush, .nil⟩
  have M_Disk_events : MetW P w K mg base 1 CDisk "events" (spCopyOf K CDisk fun D => D.deeds.map dEv) [] := ⟨_, _, _, _, cl_Disk, ⟨a8, i8, k8⟩, ok_Disk_events F_Disk_events B T_Disk, b_Disk_events, .nil⟩
  have M_Disk_pending : MetW P w K mg base 1 CDisk "pending" (spCopyOf K CDisk fun D => D.writes.map dWr) [] := ⟨_, _, _, _, cl_Disk, ⟨a9, i9, k9⟩, ok_Disk_pending F_Disk_pending B T_Disk, b_Disk_pending, .nil⟩
  have N_Layout : MakW P w K mg base 3 "Layout" CLayout (spLayInit CLayout) [] := ⟨_, _, _, _, ⟨mk_Layout, a10, i10, kc_Layout⟩, ok_Layout_init F_Layout_init G_ T_Layout K_is_between, PySem.W.mg_of X G aC_Layout, b_Layout_init, .nil⟩
  have M_Layout_slots : MetW P w K mg base 1 CLayout "slots" (spLayI CLayout fun s _ => s) [] := ⟨_, _, _, _, cl_Layout, ⟨a11, i11, k11⟩, ok_Layout_slots F_Layout_slots T_Layout, b_Layout_slots, .nil⟩
  have M_Layout_slot_block : MetW P w K mg base 3 CLayout "slot_block" (spSlotBlock CLayout) [] := ⟨_, _, _, _, cl_Layout, ⟨a12, i12, k12⟩, ok_Layout_slot_block F_Layout_slot_block T_Layout K_is_between, b_Layout_slot_block, .nil⟩
  have M_Layout_disk_size : MetW P w K mg base 1 CLayout "disk_size" (spLayI CLayout fun s h => 1 + s + h) [] := ⟨_, _, _, _, cl_Layout, ⟨a13, i13, k13⟩, ok_Layout_disk_size F_Layout_disk_size T_Layout, b_Layout_disk_size, .nil⟩
  have M_Layout_home_block : MetW P w K mg base 3 CLayout "home_block" (spHomeBlock CLayout) [] := ⟨_, _, _, _, cl_Layout, ⟨a14, i14, k14⟩, ok_Layout_home_block F_Layout_home_block T_Layout K_is_between, b_Layout_home_block, .nil⟩
  have C_groups_of : ClW P w K mg base 1 "groups_of" spGroups := ⟨_, _, _, ok_groups F_groups_of B G_, PySem.W.mg_of X G a15, k15, b_groups_of⟩
  have C_check_homes : ClW P w K mg base 3 "check_homes" spChH := ⟨_, _, _, ok_check_homes F_check_homes B G_ K_is_between, PySem.W.mg_of X G a16, k16, b_check_homes⟩
  have C_check_parts : ClW P w K mg base 12 "check_parts" (spChP K) := ⟨_, _, _, ok_check_parts F_check_parts B C_check_homes C_is_value, PySem.W.mg_of X G a17, k17, b_check_parts⟩
  have C_records_of : ClW P w K mg base 13 "records_of" (spRecsOf K) := ⟨_, _, _, ok_records_of F_records_of B C_is_integer C_check_parts C_groups_of, PySem.W.mg_of X G a18, k18, b_records_of⟩
  have N_Committed : MakW P w K mg base 1 "Committed" CCommitted (spKpInit K CCommitted) [] := ⟨_, _, _, _, ⟨mk_Committed, a19, i19, kc_Committed⟩, ok_Committed_init F_Committed_init B T_Committed, PySem.W.mg_of X G aC_Committed, b_Committed_init, .nil⟩
  have M_Committed_forget : MetW P w K mg base 1 CCommitted "forget" (spForget K CCommitted) [] := ⟨_, _, _, _, cl_Committed, ⟨a20, i20, k20⟩, ok_Committed_forget F_Committed_forget B T_Committed, b_Committed_forget, .nil⟩
  have C_check_rule : ClW P w K mg base 1 "check_rule" spRuleN := ⟨_, _, _, ok_check_rule F_check_rule B, PySem.W.mg_of X G a21, k21, b_check_rule⟩
  have N_Journal : MakW P w K mg base 5 "Journal" CJournal (spJNew K CDisk CJournal CCommitted) [.non] := ⟨_, _, _, _, ⟨mk_Journal, a22, i22, kc_Journal⟩, ok_Journal_init F_Journal_init T_Journal C_check_rule M_Disk_read, PySem.W.mg_of X G aC_Journal, d_Journal_init, v_Journal_init⟩
  have M_Journal_log : MetW P w K mg base 12 CJournal "log" (spJLog K CLayout CJournal CCommitted) [] := ⟨_, _, _, _, cl_Journal, ⟨a23, i23, k23⟩, ok_Journal_log F_Journal_log G_ T_Journal M_Layout_home_block C_is_value, b_Journal_log, .nil⟩
  have M_Journal_revoke : MetW P w K mg base 4 CJournal "revoke" (spJRev K CLayout CJournal CCommitted) [] := ⟨_, _, _, _, cl_Journal, ⟨a24, i24, k24⟩, ok_Journal_revoke F_Journal_revoke T_Journal M_Layout_home_block, b_Journal_revoke, .nil⟩
  have M_Journal_running : MetW P w K mg base 1 CJournal "running" (spJRun K CJournal CCommitted) [] := ⟨_, _, _, _, cl_Journal, ⟨a25, i25, k25⟩, ok_Journal_running F_Journal_running B T_Journal, b_Journal_running, .nil⟩
  have M_Journal_numbers : MetW P w K mg base 1 CJournal "numbers" (spJNums K CJournal CCommitted) [] := ⟨_, _, _, _, cl_Journal, ⟨a26, i26, k26⟩, ok_Journal_numbers F_Journal_numbers T_Journal T_Committed, b_Journal_numbers, .nil⟩
  have M_Journal_free_slots : MetW P w K mg base 2 CJournal "free_slots" (spJFree CLayout K CJournal CCommitted fun s M => (s : Int) - sumSz M.kept) [] := ⟨_, _, _, _, cl_Journal, ⟨a27, i27, k27⟩, ok_Journal_free F_Journal_free_slots B T_Journal T_Committed M_Layout_slots, b_Journal_free_slots, .nil⟩
  have M_Journal_tail_slot : MetW P w K mg base 2 CJournal "tail_slot" (spJFree CLayout K CJournal CCommitted fun s M => ((M.head : Int) - sumSz M.kept) % s) [] := ⟨_, _, _, _, cl_Journal, ⟨a28, i28, k28⟩, ok_Journal_tail F_Journal_tail_slot B T_Journal T_Committed M_Layout_slots, b_Journal_tail_slot, .nil⟩
  have M_Journal_flush_by : MetW P w K mg base 2 CJournal "flush_by" (spJFlush K CDisk CJournal CCommitted) [] := ⟨_, _, _, _, cl_Journal, ⟨a29, i29, k29⟩, ok_Journal_flush_by F_Journal_flush_by T_Journal M_Disk_flush, b_Journal_flush_by, .nil⟩
  have C_needed : ClW P w K mg base 2 "needed" (spNeed K CJournal CCommitted) := ⟨_, _, _, ok_needed F_needed B T_Journal T_Committed M_Journal_running, PySem.W.mg_of X G a30, k30, b_needed⟩
  have M_Journal_keep : MetW P w K mg base 2 CJournal "keep" (spKeep CLayout K CJournal CCommitted) [] := ⟨_, _, _, _, cl_Journal, ⟨a31, i31, k31⟩, ok_Journal_keep F_Journal_keep T_Journal T_Committed M_Layout_slots M_Committed_forget, b_Journal_keep, .nil⟩
  have M_Journal_checkpoint : MetW P w K mg base 13 CJournal "checkpoint" (spCkpt CLayout CDisk K CJournal CCommitted) [] := ⟨_, _, _, _, cl_Journal, ⟨a32, i32, k32⟩, ok_Journal_checkpoint F_Journal_checkpoint B T_Journal T_Committed M_Layout_home_block M_Disk_write M_Journal_flush_by M_Journal_numbers M_Journal_tail_slot, b_Journal_checkpoint, .nil⟩
  have N_LogError_init : CFn P w K mg base CX0 1 "LogError" "__init__" (spX K ["why"] foWhy) := ⟨_, _, _, _, ok_LogError_init F_LogError_init B vV, PySem.W.mg_of X G aC_LogError, ⟨rd_LogError, sg_LogError⟩, fc_LogError, k33, b_LogError_init⟩
  have X_NoSpace : Oex P w K mg base 2 "NoSpace" CNoSpace (spX K ["why", "needed", "free"] foSpace) := ⟨_, _, _, ok_NoSpace_init F_NoSpace_init N_LogError_init, oT_NoSpace, a34, ti_NoSpace, PySem.W.mg_of X G aC_NoSpace, b_NoSpace_init⟩
  have M_Journal_commit : MetX P w K mg base (L2N.CX P w) 14 CJournal "commit" (spCommit CLayout CDisk CNoSpace K CJournal CCommitted) := ⟨_, _, _, cl_Journal, ⟨a35, i35, k35⟩, ok_Journal_commit F_Journal_commit B T_Journal M_Journal_running C_needed C_records_of M_Journal_free_slots X_NoSpace xn_NoSpace M_Journal_flush_by M_Disk_write M_Layout_slot_block M_Layout_slots N_Committed M_Journal_keep, b_Journal_commit⟩
  have M_Layout_homes : MetW P w K mg base 1 CLayout "homes" (spLayI CLayout fun _ h => h) [] := ⟨_, _, _, _, cl_Layout, ⟨a36, i36, k36⟩, ok_Layout_homes F_Layout_homes T_Layout, b_Layout_homes, .nil⟩
  have M_Journal_value : MetW P w K mg base 5 CJournal "value" (spJVal CDisk CLayout K CJournal CCommitted) [] := ⟨_, _, _, _, cl_Journal, ⟨a37, i37, k37⟩, ok_Journal_value F_Journal_value B T_Journal T_Committed M_Layout_home_block M_Disk_read, b_Journal_value, .nil⟩
  have M_Journal_kept : MetW P w K mg base 1 CJournal "kept" (spJKept K CJournal CCommitted) [] := ⟨_, _, _, _, cl_Journal, ⟨a38, i38, k38⟩, ok_Journal_kept F_Journal_kept B T_Journal T_Committed, b_Journal_kept, .nil⟩
  have M_Disk_durable : MetW P w K mg base 1 CDisk "durable" (spCopyOf K CDisk DM.safe) [] := ⟨_, _, _, _, cl_Disk, ⟨a39, i39, k39⟩, ok_Disk_durable F_Disk_durable B T_Disk, b_Disk_durable, .nil⟩
  have C_law_cell_at : Cl P w K mg base CX0 1 "_law_cell_at" (spCell K) := ⟨_, _, _, ok_cell F_law_cell_at B, PySem.W.mg_of X G a40, k40, b_law_cell_at⟩
  have C_law_source : Cl P w K mg base CX0 1 "_law_source" spSource := ⟨_, _, _, ok_source F_law_source B, PySem.W.mg_of X G a41, k41, b_law_source⟩
  have C_law_draw : Cl P w K mg base CX0 1 "_law_draw" spDraw := ⟨_, _, _, ok_draw F_law_draw , PySem.W.mg_of X G a42, k42, b_law_draw⟩
  have C_law_values : ClW P w K mg base 6 "_law_values" (spVals CDisk CLayout K CJournal CCommitted) := ⟨_, _, _, ok_values F_law_values B M_Journal_running M_Journal_value, PySem.W.mg_of X G a43, k43, b_law_values⟩
  have C_law_kept_right : ClW P w K mg base 2 "_law_kept_right" (spKR CDisk CLayout K) := ⟨_, _, _, ok_kept_right F_law_kept_right M_Layout_slots M_Disk_events, PySem.W.mg_of X G a44, k44, b_law_kept_right⟩
  have C_law_checkpoint_right : ClW P w K mg base 14 "_law_checkpoint_right" (spCR CDisk CLayout CJournal CCommitted K) := ⟨_, _, _, ok_checkpoint_right F_law_checkpoint_right B M_Layout_homes C_law_values M_Disk_events M_Journal_checkpoint C_law_kept_right, PySem.W.mg_of X G a45, k45, b_law_checkpoint_right⟩
  have C_law_commit : Cl P w K mg base CX0 20 "_law_commit" (spLCm CDisk CLayout CJournal CCommitted K) := ⟨_, _, _, ok_commit F_law_commit B gC_NoSpace ex_NoSpace M_Journal_running M_Journal_commit C_law_checkpoint_right, PySem.W.mg_of X G a46, k46, b_law_commit⟩
  have C_law_step : Cl P w K mg base CX0 21 "_law_step" (spStep CDisk CLayout CJournal CCommitted K) := ⟨_, _, _, ok_step F_law_step C_law_draw M_Layout_homes.met M_Journal_log.met M_Journal_value.met M_Journal_revoke.met C_law_commit C_law_checkpoint_right.cl, PySem.W.mg_of X G a47, k47, b_law_step⟩
  exact ok_law F_law B C_law_cell_at C_law_source C_law_draw N_Disk.mak M_Disk_write.met M_Disk_flush.met M_Disk_pending.met M_Disk_durable.met N_Layout.mak M_Layout_disk_size.met M_Layout_home_block.met N_Journal.mak M_Journal_kept.met M_Journal_numbers.met M_Journal_checkpoint.met C_law_step C_law_checkpoint_right.cl
theorem facts {P : Program} {w : World} {K : PySem.W.Frag} {h : Heap} {mg : Str → Option Value} {fa : Addr} (X : K.In h) (G : h.Ns mainGlobals mg) (hfa : mg "law" = some (.ref fa)) (c : SaysJ L27H.fa L27H.fn K) :
    ∃ fd : FuncData, (∀ (s : Shared) (v : Value), BindsTo s fd ⟨[v], []⟩ [("_law_script", v)]) ∧ ∀ base : Heap, K.In base → base.Ns mainGlobals mg → FnG P w K mg base CX0 22 fa fd ["_law_script"] (spLaw K) := by
  obtain ⟨fd0, F0⟩ := c.def_ 0 (d := L27H.D0) rfl
  obtain ⟨fd1, F1⟩ := c.def_ 1 (d := L27H.D1) rfl
  obtain ⟨fd2, F2⟩ := c.def_ 2 (d := L27H.D2) rfl
  obtain ⟨fd3, F3⟩ := c.def_ 3 (d := L27H.D3) rfl
  obtain ⟨fd4, F4⟩ := c.def_ 4 (d := L27H.D4) rfl
  obtain ⟨fd5, F5⟩ := c.def_ 5 (d := L27H.D5) rfl
  obtain ⟨fd6, F6⟩ := c.def_ 6 (d := L27H.D6) rfl
  obtain ⟨fd7, F7⟩ := c.def_ 7 (d := L27H.D7) rfl
  obtain ⟨fd8, F8⟩ := c.def_ 8 (d := L27H.D8) rfl
  obtain ⟨fd9, F9⟩ := c.def_ 9 (d := L27H.D9) rfl
  obtain ⟨fd10, F10⟩ := c.def_ 10 (d := L27H.D10) rfl
  obtain ⟨fd11, F11⟩ := c.def_ 11 (d := L27H.D11) rfl
  obtain ⟨fd12, F12⟩ := c.def_ 12 (d := L27H.D12) rfl
  obtain ⟨fd13, F13⟩ := c.def_ 13 (d := L27H.D13) rfl
  obtain ⟨fd14, F14⟩ := c.def_ 14 (d := L27H.D14) rfl
  obtain ⟨fd15, F15⟩ := c.def_ 15 (d := L27H.D15) rfl
  obtain ⟨fd16, F16⟩ := c.def_ 16 (d := L27H.D16) rfl
  obtain ⟨fd17, F17⟩ := c.def_ 17 (d := L27H.D17) rfl
  obtain ⟨fd18, F18⟩ := c.def_ 18 (d := L27H.D18) rfl
  obtain ⟨fd19, F19⟩ := c.def_ 19 (d := L27H.D19) rfl
  obtain ⟨fd20, F20⟩ := c.def_ 20 (d := L27H.D20) rfl
  obtain ⟨fd21, F21⟩ := c.def_ 21 (d := L27H.D21) rfl
  obtain ⟨fd22, F22⟩ := c.def_ 22 (d := L27H.D22) rfl
  obtain ⟨fd23, F23⟩ := c.def_ 23 (d := L27H.D23) rfl
  obtain ⟨fd24, F24⟩ := c.def_ 24 (d := L27H.D24) rfl
  obtain ⟨fd25, F25⟩ := c.def_ 25 (d := L27H.D25) rfl
  obtain ⟨fd26, F26⟩ := c.def_ 26 (d := L27H.D26) rfl
  obtain ⟨fd27, F27⟩ := c.def_ 27 (d := L27H.D27) rfl
  obtain ⟨fd28, F28⟩ := c.def_ 28 (d := L27H.D28) rfl
  obtain ⟨fd29, F29⟩ := c.def_ 29 (d := L27H.D29) rfl
  obtain ⟨fd30, F30⟩ := c.def_ 30 (d := L27H.D30) rfl
  obtain ⟨fd31, F31⟩ := c.def_ 31 (d := L27H.D31) rfl
  obtain ⟨fd32, F32⟩ := c.def_ 32 (d := L27H.D32) rfl
  obtain ⟨fd33, F33⟩ := c.def_ 33 (d := L27H.D33) rfl
  obtain ⟨fd34, F34⟩ := c.def_ 34 (d := L27H.D34) rfl
  obtain ⟨fd35, F35⟩ := c.def_ 35 (d := L27H.D35) rfl
  obtain ⟨fd36, F36⟩ := c.def_ 36 (d := L27H.D36) rfl
  obtain ⟨fd37, F37⟩ := c.def_ 37 (d := L27H.D37) rfl
  obtain ⟨fd38, F38⟩ := c.def_ 38 (d := L27H.D38) rfl
  obtain ⟨fd39, F39⟩ := c.def_ 39 (d := L27H.D39) rfl
  obtain ⟨fd40, F40⟩ := c.def_ 40 (d := L27H.D40) rfl
  obtain ⟨fd41, F41⟩ := c.def_ 41 (d := L27H.D41) rfl
  obtain ⟨fd42, F42⟩ := c.def_ 42 (d := L27H.D42) rfl
  obtain ⟨fd43, F43⟩ := c.def_ 43 (d := L27H.D43) rfl
  obtain ⟨fd44, F44⟩ := c.def_ 44 (d := L27H.D44) rfl
  obtain ⟨fd45, F45⟩ := c.def_ 45 (d := L27H.D45) rfl
  obtain ⟨fd46, F46⟩ := c.def_ 46 (d := L27H.D46) rfl
  obtain ⟨fd47, F47⟩ := c.def_ 47 (d := L27H.D47) rfl
  obtain ⟨fd48, F48⟩ := c.def_ 48 (d := L27H.D48) rfl
  have r0 := c.part 0 (l := L27H.fa0) rfl
  obtain ⟨h_aC_Disk, r0⟩ := He.ba r0
  obtain ⟨h_pg_Disk, r0⟩ := He.ba r0
  obtain ⟨h_hd_Disk, r0⟩ := He.ba r0
  obtain ⟨h_po_Disk, r0⟩ := He.ba r0
  obtain ⟨h_sa_Disk, r0⟩ := He.ba r0
  obtain ⟨h_mk_Disk, r0⟩ := He.ba r0
  obtain ⟨h_kc_Disk, r0⟩ := He.ba r0
  obtain ⟨h_no_Disk_first, r0⟩ := He.ba r0
  obtain ⟨h_no_Disk_safe, r0⟩ := He.ba r0
  obtain ⟨h_no_Disk_writes, r0⟩ := He.ba r0
  obtain ⟨h_no_Disk_deeds, r0⟩ := He.ba r0
  obtain ⟨h_aC_Layout, r0⟩ := He.ba r0
  obtain ⟨h_pg_Layout, r0⟩ := He.ba r0
  obtain ⟨h_hd_Layout, r0⟩ := He.ba r0
  obtain ⟨h_po_Layout, r0⟩ := He.ba r0
  obtain ⟨h_sa_Layout, r0⟩ := He.ba r0
  obtain ⟨h_mk_Layout, r0⟩ := He.ba r0
  obtain ⟨h_kc_Layout, r0⟩ := He.ba r0
  obtain ⟨h_no_Layout_ring, r0⟩ := He.ba r0
  obtain ⟨h_no_Layout_places, r0⟩ := He.ba r0
  obtain ⟨h_aC_Committed, r0⟩ := He.ba r0
  obtain ⟨h_pg_Committed, r0⟩ := He.ba r0
  obtain ⟨h_hd_Committed, r0⟩ := He.ba r0
  obtain ⟨h_po_Committed, r0⟩ := He.ba r0
  obtain ⟨h_sa_Committed, r0⟩ := He.ba r0
  have r1 := c.part 1 (l := L27H.fa1) rfl
  obtain ⟨h_mk_Committed, r1⟩ := He.ba r1
  obtain ⟨h_kc_Committed, r1⟩ := He.ba r1
  obtain ⟨h_no_Committed_label, r1⟩ := He.ba r1
  obtain ⟨h_no_Committed_size, r1⟩ := He.ba r1
  obtain ⟨h_no_Committed_copies, r1⟩ := He.ba r1
  obtain ⟨h_no_Committed_revokes, r1⟩ := He.ba r1
  obtain ⟨h_no_Committed_left, r1⟩ := He.ba r1
  obtain ⟨h_aC_Journal, r1⟩ := He.ba r1
  obtain ⟨h_pg_Journal, r1⟩ := He.ba r1
  obtain ⟨h_hd_Journal, r1⟩ := He.ba r1
  obtain ⟨h_po_Journal, r1⟩ := He.ba r1
  obtain ⟨h_sa_Journal, r1⟩ := He.ba r1
  obtain ⟨h_mk_Journal, r1⟩ := He.ba r1
  obtain ⟨h_kc_Journal, r1⟩ := He.ba r1
  obtain ⟨h_no_Journal_plan, r1⟩ := He.ba r1
  obtain ⟨h_no_Journal_medium, r1⟩ := He.ba r1
  obtain ⟨h_no_Journal_without, r1⟩ := He.ba r1
  obtain ⟨h_no_Journal_next_number, r1⟩ := He.ba r1
  obtain ⟨h_no_Journal_head, r1⟩ := He.ba r1
  obtain ⟨h_no_Journal_log_kept, r1⟩ := He.ba r1
  obtain ⟨h_no_Journal_new_copies, r1⟩ := He.ba r1
  obtain ⟨h_no_Journal_new_revokes, r1⟩ := He.ba r1
  obtain ⟨h_a0, r1⟩ := He.ba r1
  obtain ⟨h_a1, r1⟩ := He.ba r1
  obtain ⟨h_a2, r1⟩ := He.ba r1
  have r2 := c.part 2 (l := L27H.fa2) rfl
  obtain ⟨h_a3, r2⟩ := He.ba r2
  obtain ⟨h_i3, r2⟩ := He.ba r2
  obtain ⟨h_a4, r2⟩ := He.ba r2
  obtain ⟨h_i4, r2⟩ := He.ba r2
  obtain ⟨h_a5, r2⟩ := He.ba r2
  obtain ⟨h_i5, r2⟩ := He.ba r2
  obtain ⟨h_a6, r2⟩ := He.ba r2
  obtain ⟨h_i6, r2⟩ := He.ba r2
  obtain ⟨h_a7, r2⟩ := He.ba r2
  obtain ⟨h_i7, r2⟩ := He.ba r2
  obtain ⟨h_a8, r2⟩ := He.ba r2
  obtain ⟨h_i8, r2⟩ := He.ba r2
  obtain ⟨h_a9, r2⟩ := He.ba r2
  obtain ⟨h_i9, r2⟩ := He.ba r2
  obtain ⟨h_a10, r2⟩ := He.ba r2
  obtain ⟨h_i10, r2⟩ := He.ba r2
  obtain ⟨h_a11, r2⟩ := He.ba r2
  obtain ⟨h_i11, r2⟩ := He.ba r2
  obtain ⟨h_a12, r2⟩ := He.ba r2
  obtain ⟨h_i12, r2⟩ := He.ba r2
  obtain ⟨h_a13, r2⟩ := He.ba r2
  obtain ⟨h_i13, r2⟩ := He.ba r2
  obtain ⟨h_a14, r2⟩ := He.ba r2
  obtain ⟨h_i14, r2⟩ := He.ba r2
  obtain ⟨h_a15, r2⟩ := He.ba r2
  have r3 := c.part 3 (l := L27H.fa3) rfl
  obtain ⟨h_a16, r3⟩ := He.ba r3
  obtain ⟨h_a17, r3⟩ := He.ba r3
  obtain ⟨h_a18, r3⟩ := He.ba r3
  obtain ⟨h_a19, r3⟩ := He.ba r3
  obtain ⟨h_i19, r3⟩ := He.ba r3
  obtain ⟨h_a20, r3⟩ := He.ba r3
  obtain ⟨h_i20, r3⟩ := He.ba r3
  obtain ⟨h_a21, r3⟩ := He.ba r3
  obtain ⟨h_a22, r3⟩ := He.ba r3
  obtain ⟨h_i22, r3⟩ := He.ba r3
  obtain ⟨h_a23, r3⟩ := He.ba r3
  obtain ⟨h_i23, r3⟩ := He.ba r3
  obtain ⟨h_a24, r3⟩ := He.ba r3
  obtain ⟨h_i24, r3⟩ := He.ba r3
  obtain ⟨h_a25, r3⟩ := He.ba r3
  obtain ⟨h_i25, r3⟩ := He.ba r3
  obtain ⟨h_a26, r3⟩ := He.ba r3
  obtain ⟨h_i26, r3⟩ := He.ba r3
  obtain ⟨h_a27, r3⟩ := He.ba r3
  obtain ⟨h_i27, r3⟩ := He.ba r3
  obtain ⟨h_a28, r3⟩ := He.ba r3
  obtain ⟨h_i28, r3⟩ := He.ba r3
  obtain ⟨h_a29, r3⟩ := He.ba r3
  obtain ⟨h_i29, r3⟩ := He.ba r3
  obtain ⟨h_a30, r3⟩ := He.ba r3
  have r4 := c.part 4 (l := L27H.fa4) rfl
  obtain ⟨h_a31, r4⟩ := He.ba r4
  obtain ⟨h_i31, r4⟩ := He.ba r4
  obtain ⟨h_a32, r4⟩ := He.ba r4
  obtain ⟨h_i32, r4⟩ := He.ba r4
  obtain ⟨h_a33, r4⟩ := He.ba r4
  obtain ⟨h_i33, r4⟩ := He.ba r4
  obtain ⟨h_a34, r4⟩ := He.ba r4
  obtain ⟨h_i34, r4⟩ := He.ba r4
  obtain ⟨h_a35, r4⟩ := He.ba r4
  obtain ⟨h_i35, r4⟩ := He.ba r4
  obtain ⟨h_a36, r4⟩ := He.ba r4
  obtain ⟨h_i36, r4⟩ := He.ba r4
  obtain ⟨h_a37, r4⟩ := He.ba r4
  obtain ⟨h_i37, r4⟩ := He.ba r4
  obtain ⟨h_a38, r4⟩ := He.ba r4
  obtain ⟨h_i38, r4⟩ := He.ba r4
  obtain ⟨h_a39, r4⟩ := He.ba r4
  obtain ⟨h_i39, r4⟩ := He.ba r4
  obtain ⟨h_a40, r4⟩ := He.ba r4
  obtain ⟨h_a41, r4⟩ := He.ba r4
  obtain ⟨h_a42, r4⟩ := He.ba r4
  obtain ⟨h_a43, r4⟩ := He.ba r4
  obtain ⟨h_a44, r4⟩ := He.ba r4
  obtain ⟨h_a45, r4⟩ := He.ba r4
  obtain ⟨h_a46, r4⟩ := He.ba r4
  have r5 := c.part 5 (l := L27H.fa5) rfl
  obtain ⟨h_a47, r5⟩ := He.ba r5
  obtain ⟨h_a48, r5⟩ := He.ba r5
  obtain ⟨h_v_MOST_BLOCKS, r5⟩ := He.ba r5
  obtain ⟨h_v_MOST_NESTED, r5⟩ := He.ba r5
  obtain ⟨h_v_LEAST_SLOTS, r5⟩ := He.ba r5
  obtain ⟨h_v_MOST_SLOTS, r5⟩ := He.ba r5
  obtain ⟨h_v_LEAST_HOMES, r5⟩ := He.ba r5
  obtain ⟨h_v_MOST_HOMES, r5⟩ := He.ba r5
  obtain ⟨h_v_GROUP, r5⟩ := He.ba r5
  obtain ⟨h_v_RECORD_DEPTH, r5⟩ := He.ba r5
  obtain ⟨h_z_int, r5⟩ := He.ba r5
  obtain ⟨h_z_len, r5⟩ := He.ba r5
  obtain ⟨h_z_list, r5⟩ := He.ba r5
  obtain ⟨h_z_range, r5⟩ := He.ba r5
  obtain ⟨h_z_repr, r5⟩ := He.ba r5
  obtain ⟨h_z_tuple, r5⟩ := He.ba r5
  obtain ⟨h_z_isinstance, r5⟩ := He.ba r5
  obtain ⟨h_z_all, r5⟩ := He.ba r5
  obtain ⟨h_z_zip, r5⟩ := He.ba r5
  obtain ⟨h_z_str, r5⟩ := He.ba r5
  obtain ⟨h_z_bool, r5⟩ := He.ba r5
  obtain ⟨h_z_enumerate, r5⟩ := He.ba r5
  obtain ⟨h_z_dict, r5⟩ := He.ba r5
  obtain ⟨h_z_sorted, r5⟩ := He.ba r5
  obtain ⟨h_z_sum, r5⟩ := He.ba r5
  have r6 := c.part 6 (l := L27H.fa6) rfl
  obtain ⟨h_z_reversed, r6⟩ := He.ba r6
  obtain ⟨h_z_ValueError, r6⟩ := He.ba r6
  obtain ⟨h_aC_NoSpace, r6⟩ := He.ba r6
  obtain ⟨h_aC_LogError, r6⟩ := He.ba r6
  obtain ⟨h_oT_NoSpace, r6⟩ := He.ba r6
  obtain ⟨h_sa_NoSpace, r6⟩ := He.ba r6
  obtain ⟨h_ga_NoSpace, r6⟩ := He.ba r6
  obtain ⟨h_gg_NoSpace, r6⟩ := He.ba r6
  obtain ⟨h_kC_NoSpace, r6⟩ := He.ba r6
  obtain ⟨h_eC_NoSpace, r6⟩ := He.ba r6
  obtain ⟨h_tC_NoSpace, r6⟩ := He.ba r6
  obtain ⟨h_hC_NoSpace, r6⟩ := He.ba r6
  obtain ⟨h_iC_NoSpace, r6⟩ := He.ba r6
  obtain ⟨h_sC_NoSpace, r6⟩ := He.ba r6
  obtain ⟨h_nf_NoSpace_why, r6⟩ := He.ba r6
  obtain ⟨h_nf_NoSpace_needed, r6⟩ := He.ba r6
  obtain ⟨h_nf_NoSpace_free, r6⟩ := He.ba r6
  obtain ⟨h_ti_NoSpace, r6⟩ := He.ba r6
  obtain ⟨h_rd_LogError, r6⟩ := He.ba r6
  obtain ⟨h_sg_LogError, r6⟩ := He.ba r6
  obtain ⟨h_fc_LogError, r6⟩ := He.ba r6
  obtain ⟨h_vV, r6⟩ := He.ba r6
  exact all_mk (P := P) (w := w) (CDisk := (He.ga K "Disk")) (CLayout := (He.ga K "Layout")) (CCommitted := (He.ga K "Committed")) (CJournal := (He.ga K "Journal")) (f0 := (He.ga K "is_integer")) (f1 := (He.ga K "is_between")) (f2 := (He.ga K "is_value")) (f3 := (He.ma K (He.ga K "Disk") "__init__")) (f4 := (He.ma K (He.ga K "Disk") "check_block")) (f5 := (He.ma K (He.ga K "Disk") "read")) (f6 := (He.ma K (He.ga K "Disk") "write")) (f7 := (He.ma K (He.ga K "Disk") "flush")) (f8 := (He.ma K (He.ga K "Disk") "events")) (f9 := (He.ma K (He.ga K "Disk") "pending")) (f10 := (He.ma K (He.ga K "Layout") "__init__")) (f11 := (He.ma K (He.ga K "Layout") "slots")) (f12 := (He.ma K (He.ga K "Layout") "slot_block")) (f13 := (He.ma K (He.ga K "Layout") "disk_size")) (f14 := (He.ma K (He.ga K "Layout") "home_block")) (f15 := (He.ga K "groups_of")) (f16 := (He.ga K "check_homes")) (f17 := (He.ga K "check_parts")) (f18 := (He.ga K "records_of")) (f19 := (He.ma K (He.ga K "Committed") "__init__")) (f20 := (He.ma K (He.ga K "Committed") "forget")) (f21 := (He.ga K "check_rule")) (f22 := (He.ma K (He.ga K "Journal") "__init__")) (f23 := (He.ma K (He.ga K "Journal") "log")) (f24 := (He.ma K (He.ga K "Journal") "revoke")) (f25 := (He.ma K (He.ga K "Journal") "running")) (f26 := (He.ma K (He.ga K "Journal") "numbers")) (f27 := (He.ma K (He.ga K "Journal") "free_slots")) (f28 := (He.ma K (He.ga K "Journal") "tail_slot")) (f29 := (He.ma K (He.ga K "Journal") "flush_by")) (f30 := (He.ga K "needed")) (f31 := (He.ma K (He.ga K "Journal") "keep")) (f32 := (He.ma K (He.ga K "Journal") "checkpoint")) (CLogError := (He.ga K "LogError")) (f33 := (He.ma K (He.ga K "LogError") "__init__")) (CNoSpace := (He.ga K "NoSpace")) (f34 := (He.ma K (He.ga K "NoSpace") "__init__")) (f35 := (He.ma K (He.ga K "Journal") "commit")) (f36 := (He.ma K (He.ga K "Layout") "homes")) (f37 := (He.ma K (He.ga K "Journal") "value")) (f38 := (He.ma K (He.ga K "Journal") "kept")) (f39 := (He.ma K (He.ga K "Disk") "durable")) (f40 := (He.ga K "_law_cell_at")) (f41 := (He.ga K "_law_source")) (f42 := (He.ga K "_law_draw")) (f43 := (He.ga K "_law_values")) (f44 := (He.ga K "_law_kept_right")) (f45 := (He.ga K "_law_checkpoint_right")) (f46 := (He.ga K "_law_commit")) (f47 := (He.ga K "_law_step")) (f48 := (He.ga K "law")) X G hfa F0 F1 F2 F3 F4 F5 F6 F7 F8 F9 F10 F11 F12 F13 F14 F15 F16 F17 F18 F19 F20 F21 F22 F23 F24 F25 F26 F27 F28 F29 F30 F31 F32 F33 F34 F35 F36 F37 F38 F39 F40 F41 F42 F43 F44 F45 F46 F47 F48
    (of_decide_eq_true h_aC_Disk)
    h_pg_Disk
    h_hd_Disk
    h_po_Disk
    (of_decide_eq_true h_sa_Disk)
    h_mk_Disk
    h_kc_Disk
    (of_decide_eq_true h_no_Disk_first)
    (of_decide_eq_true h_no_Disk_safe)
    (of_decide_eq_true h_no_Disk_writes)
    (of_decide_eq_true h_no_Disk_deeds)
    (of_decide_eq_true h_aC_Layout)
    h_pg_Layout
    h_hd_Layout
    h_po_Layout
    (of_decide_eq_true h_sa_Layout)
    h_mk_Layout
    h_kc_Layout
    (of_decide_eq_true h_no_Layout_ring)
    (of_decide_eq_true h_no_Layout_places)
    (of_decide_eq_true h_aC_Committed)
    h_pg_Committed
    h_hd_Committed
    h_po_Committed
    (of_decide_eq_true h_sa_Committed)
    h_mk_Committed
    h_kc_Committed
    (of_decide_eq_true h_no_Committed_label)
    (of_decide_eq_true h_no_Committed_size)
    (of_decide_eq_true h_no_Committed_copies)
    (of_decide_eq_true h_no_Committed_revokes)
    (of_decide_eq_true h_no_Committed_left)
    (of_decide_eq_true h_aC_Journal)
    h_pg_Journal
    h_hd_Journal
    h_po_Journal
    (of_decide_eq_true h_sa_Journal)
    h_mk_Journal
    h_kc_Journal
    (of_decide_eq_true h_no_Journal_plan)
    (of_decide_eq_true h_no_Journal_medium)
    (of_decide_eq_true h_no_Journal_without)
    (of_decide_eq_true h_no_Journal_next_number)
    (of_decide_eq_true h_no_Journal_head)
    (of_decide_eq_true h_no_Journal_log_kept)
    (of_decide_eq_true h_no_Journal_new_copies)
    (of_decide_eq_true h_no_Journal_new_revokes)
    (of_decide_eq_true h_a0)
    (of_decide_eq_true h_a1)
    (of_decide_eq_true h_a2)
    (of_decide_eq_true h_a3)
    h_i3
    (of_decide_eq_true h_a4)
    h_i4
    (of_decide_eq_true h_a5)
    h_i5
    (of_decide_eq_true h_a6)
    h_i6
    (of_decide_eq_true h_a7)
    h_i7
    (of_decide_eq_true h_a8)
    h_i8
    (of_decide_eq_true h_a9)
    h_i9
    (of_decide_eq_true h_a10)
    h_i10
    (of_decide_eq_true h_a11)
    h_i11
    (of_decide_eq_true h_a12)
    h_i12
    (of_decide_eq_true h_a13)
    h_i13
    (of_decide_eq_true h_a14)
    h_i14
    (of_decide_eq_true h_a15)
    (of_decide_eq_true h_a16)
    (of_decide_eq_true h_a17)
    (of_decide_eq_true h_a18)
    (of_decide_eq_true h_a19)
    h_i19
    (of_decide_eq_true h_a20)
    h_i20
    (of_decide_eq_true h_a21)
    (of_decide_eq_true h_a22)
    h_i22
    (of_decide_eq_true h_a23)
    h_i23
    (of_decide_eq_true h_a24)
    h_i24
    (of_decide_eq_true h_a25)
    h_i25
    (of_decide_eq_true h_a26)
    h_i26
    (of_decide_eq_true h_a27)
    h_i27
    (of_decide_eq_true h_a28)
    h_i28
    (of_decide_eq_true h_a29)
    h_i29
    (of_decide_eq_true h_a30)
    (of_decide_eq_true h_a31)
    h_i31
    (of_decide_eq_true h_a32)
    h_i32
    (of_decide_eq_true h_a33)
    h_i33
    (of_decide_eq_true h_a34)
    h_i34
    (of_decide_eq_true h_a35)
    h_i35
    (of_decide_eq_true h_a36)
    h_i36
    (of_decide_eq_true h_a37)
    h_i37
    (of_decide_eq_true h_a38)
    h_i38
    (of_decide_eq_true h_a39)
    h_i39
    (of_decide_eq_true h_a40)
    (of_decide_eq_true h_a41)
    (of_decide_eq_true h_a42)
    (of_decide_eq_true h_a43)
    (of_decide_eq_true h_a44)
    (of_decide_eq_true h_a45)
    (of_decide_eq_true h_a46)
    (of_decide_eq_true h_a47)
    (of_decide_eq_true h_a48)
    h_v_MOST_BLOCKS
    h_v_MOST_NESTED
    h_v_LEAST_SLOTS
    h_v_MOST_SLOTS
    h_v_LEAST_HOMES
    h_v_MOST_HOMES
    h_v_GROUP
    h_v_RECORD_DEPTH
    (of_decide_eq_true h_z_int)
    (of_decide_eq_true h_z_len)
    (of_decide_eq_true h_z_list)
    (of_decide_eq_true h_z_range)
    (of_decide_eq_true h_z_repr)
    (of_decide_eq_true h_z_tuple)
    (of_decide_eq_true h_z_isinstance)
    (of_decide_eq_true h_z_all)
    (of_decide_eq_true h_z_zip)
    (of_decide_eq_true h_z_str)
    (of_decide_eq_true h_z_bool)
    (of_decide_eq_true h_z_enumerate)
    (of_decide_eq_true h_z_dict)
    (of_decide_eq_true h_z_sorted)
    (of_decide_eq_true h_z_sum)
    (of_decide_eq_true h_z_reversed)
    (of_decide_eq_true h_z_ValueError)
    (of_decide_eq_true h_aC_NoSpace)
    (of_decide_eq_true h_aC_LogError)
    (oexB_ok h_oT_NoSpace)
    (of_decide_eq_true h_sa_NoSpace)
    (of_decide_eq_true h_ga_NoSpace)
    (of_decide_eq_true h_gg_NoSpace)
    h_kC_NoSpace
    (of_decide_eq_true h_eC_NoSpace)
    (of_decide_eq_true h_tC_NoSpace)
    h_hC_NoSpace
    h_iC_NoSpace
    (of_decide_eq_true h_sC_NoSpace)
    (of_decide_eq_true h_nf_NoSpace_why)
    (of_decide_eq_true h_nf_NoSpace_needed)
    (of_decide_eq_true h_nf_NoSpace_free)
    (of_decide_eq_true h_ti_NoSpace)
    h_rd_LogError
    (of_decide_eq_true h_sg_LogError)
    (cfB_ok h_fc_LogError)
    (cfB_ok h_vV)
end L27
open PySem PySem.W PyProof.Rows in
set_option maxRecDepth 100000 in
set_option maxHeartbeats 0 in
theorem PySem.Challenge.cw_revokelog_k27_whole_checkpoints_amid_tra_holds : PySem.Challenge.rw_revokelog_k27_whole_checkpoints_amid_tra.Holds := by
  w_on; o_law
  refine HandSHeadRun.head_any (r := OpenLaw.row PySem.Challenge.rw_revokelog_k27_whole_checkpoints_amid_tra) (q := view (OpenLaw.row PySem.Challenge.rw_revokelog_k27_whole_checkpoints_amid_tra).prog [46]) (H := L27H.hk) (ob := L27H.ob) (M := 12000) (loose := L27H.names) (d := HandSHeadRun.topDef (OpenLaw.row PySem.Challenge.rw_revokelog_k27_whole_checkpoints_amid_tra).prog 46) (kwd := []) L27H.ob_eq
    (by kernel_rfl) (fun s => by kernel_rfl) L27H.run (by kernel_rfl) (by kernel_rfl) (by kernel_rfl) (by rfl) (by first | assumption | decide +kernel) (by decide +kernel) ⟨rfl, rfl, rfl, rfl, rfl, by decide +kernel⟩ ?hw ?hc
  case hw => w_witness2
  case hc =>
    refine J.walk_ofH (l := PySem.Challenge.rw_revokelog_k27_whole_checkpoints_amid_tra) (n := 63) (k := 22) (x := "_law_script") rfl (by decide) (by kernel_rfl) ⟨rfl, by decide, by decide⟩ ?F
    intro w mg fa h Y G hmg0
    obtain ⟨K, KX, c⟩ := Y
    have hmg : mg ("law" : PySem.Str) = some (.ref fa) := by
      have e : (HandSHeadRun.topDef (OpenLaw.row PySem.Challenge.rw_revokelog_k27_whole_checkpoints_amid_tra).prog 46).name = ("law" : PySem.Str) := by kernel_rfl
      rw [← e]
      exact hmg0
    obtain ⟨fd, hb, hF⟩ := L27.facts (P := (PySem.Challenge.rw_revokelog_k27_whole_checkpoints_amid_tra).prog) (w := w) KX G hmg c
    exact ⟨K, fd, L27.spLaw K, KX, hb, fun H a ns hl _ hS => ⟨a, ns, rfl, hS, hl, fun _ => rfl⟩, hF⟩
