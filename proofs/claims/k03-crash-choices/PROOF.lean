import PyProof.Rows.All
import Wide.All
import OpenK.AllK
import Wide.FinOn
import HandS.ForMost
import HandS.Exc
import HandS.ExcOwn
import HandS.TryOnly
import HandS.WordsExc
import HandS.Flow
import HandS.Style
import HandS.IsInst
import HandS.Deep
import HandS.TupAny
import HandS.TupMul
import HandS.SortKw
import HandS.SortRule
import HandS.SortInts
import HandS.ListItems
import HandS.DictTup
import HandS.Codes
import HandS.Defaults
import HandS.Zip
import HandS.More
import HandS.Conv
import HandS.ExcInit
import HandS.ExcField
import HandS.ClsMeth
import HandS.Finally
import HandS.SetFor
import HandS.DictEq
import HandS.Wide
import HandS.Small
import PyProof.EqAt
import PyProof.NeKinds
import PyProof.DictWalks
import PyProof.WalkInts
import PyProof.MinMaxWalk
import HandS.ExcIs
import KE.KExcIs
import HandS.OwnEq
import PyProof.InstNe
import HandS.MakeKwOnly
import HandS.HotCalls
import HandS.ExcInitHot
import PyProof.StrOps2
import KE.KxPercent
import HandS.TryMany
import HandS.FStr
import KE.SortData
import PyProof.Rows.SortWalk
import HandS.Head2
import HandS.HeadHook3
import PySem.Challenge.RW_revokelog_k03_all_crash_choices
set_option Elab.async false
set_option maxRecDepth 100000
set_option maxHeartbeats 4000000
namespace J
open PySem PySem.Spec PyProof.Rows L2

/-! ### repr of data -/
def rRepr (K : PySem.W.Frag) : List V → Hp → VK → Prop := fun xs H Q =>
  ∃ (x : V) (d : PyData), xs = [x] ∧ Dp K H x d ∧ d.showable = true ∧ d.depth ≤ 60 ∧
    d.shown.length ≤ sizeLine ∧ Q (.str d.shown) H
theorem noDict_of_dp {K : PySem.W.Frag} {H : Hp} : ∀ (d : PyData) (v : V), Dp K H v d → d.hasDict = false := by
  intro d v h
  refine Dp.rec (motive_1 := fun _ d _ => d.hasDict = false)
    (motive_2 := fun _ ds _ => PyData.hasDictAll ds = false) ?_ ?_ ?_ ?_ ?_ ?_ ?_ ?_ h
  all_goals intros
  all_goals simp_all [PyData.hasDict, PyData.hasDictAll]
section
variable {X : Cx}
theorem call_reprD (hg : X.A.guards = some []) (hu : X.A.units + 64 < cLine) :
    CallR X (.builtin "repr") (rRepr X.K) := by
  intro pins s σ H xs us Q I r h
  obtain ⟨x, d, rfl, hd, hs, hdep, hz, q⟩ := h
  obtain ⟨u, rfl, rx⟩ := vals1 r
  cases hd with
  | non =>
    cases rx
    exact PySem.P.repr_of_none ⟨.str _, H, I.tok _, ⟨_, rfl⟩, q⟩
  | bl b =>
    cases rx
    exact PySem.P.repr_of_bool ⟨.str _, H, I.tok _, ⟨_, rfl⟩, by cases b <;> exact q⟩
  | int i =>
    obtain ⟨t, rfl⟩ := rx
    exact PySem.P.repr_of_int (by simpa [PyData.showable] using hs) ⟨.str _, H, I.tok _, ⟨_, rfl⟩, q⟩
  | str z =>
    obtain ⟨t, rfl⟩ := rx
    exact PySem.P.repr_of_str ⟨.str _, H, I.tok _, ⟨_, rfl⟩, q⟩ hz
  | @lst a ys ds hq ha =>
    obtain ⟨as, rr⟩ := Dp.reads I _ _ _ (.lst hq ha) rx
    cases rx
    have nd := noDict_of_dp _ _ (Dp.lst hq ha)
    exact repr_of_reads' rr hs (PyData.noDict_hsm nd) hg (by omega) (fun _ _ e => e)
      (fun h' v tk hk => ⟨.str _, H, I.kept hk, ⟨_, rfl⟩, q⟩) hz
  | @tup a ys ds hq ha =>
    obtain ⟨as, rr⟩ := Dp.reads I _ _ _ (.tup hq ha) rx
    cases rx
    have nd := noDict_of_dp _ _ (Dp.tup hq ha)
    exact repr_of_reads' rr hs (PyData.noDict_hsm nd) hg (by omega) (fun _ _ e => e)
      (fun h' v tk hk => ⟨.str _, H, I.kept hk, ⟨_, rfl⟩, q⟩) hz
end
end J

set_option Elab.async false
set_option linter.all false
set_option maxRecDepth 100000
set_option maxHeartbeats 4000000
namespace J
open PySem L2 PyProof.Rows

/-! ### defs by their names -/
/-- the def that stands at the module's name x keeps the promise -/
structure Cl (P : Program) (w : World) (K : PySem.W.Frag) (mg : Str → Option Value) (base : Heap)
    (CX : CXT) (k : Nat) (x : Str) (sp : Sp) : Prop where
  ex : ∃ f fd ps, FnOk P w K mg base CX k f fd ps sp ∧ mg x = some (.ref f) ∧
    PySem.W.keepIn K (.ref f) = true ∧ Binds K fd ps []

/-- the same, where no repr is under way -/
structure FnG (P : Program) (w : World) (K : PySem.W.Frag) (mg : Str → Option Value) (base : Heap)
    (CX : CXT) (k : Nat) (f : Addr) (fd : FuncData) (ps : List Str) (sp : Sp) : Prop where
  len : ∀ vs H Q E, sp vs H Q E → vs.length = ps.length
  run : ∀ (A : Around) (outer : List Env) (s : Shared) (H : Hp) (args : Args) (us : List Value)
    (vs : List V) (Q : VK) (E : XK), Room k A → A.guards = some [] →
    Env0 P w K mg base A outer s H → BindsTo s fd args (ps.zip us) → Vals vs us → sp vs H Q E →
    codeAny (model P w) A (.call (.ref f) args) (CR CX outer P w H s Q E) s
structure ClG (P : Program) (w : World) (K : PySem.W.Frag) (mg : Str → Option Value) (base : Heap)
    (CX : CXT) (k : Nat) (x : Str) (sp : Sp) : Prop where
  ex : ∃ f fd ps, FnG P w K mg base CX k f fd ps sp ∧ mg x = some (.ref f) ∧
    PySem.W.keepIn K (.ref f) = true ∧ Binds K fd ps []
theorem ClG.of {P : Program} {w : World} {K : PySem.W.Frag} {mg : Str → Option Value} {base : Heap}
    {CX : CXT} {k : Nat} {x : Str} {sp : Sp} (c : Cl P w K mg base CX k x sp) :
    ClG P w K mg base CX k x sp := by
  obtain ⟨f, fd, ps, F, hm, hk, hb⟩ := c.ex
  exact ⟨f, fd, ps, ⟨F.len, fun A o s H ar us vs Q E hr _ => F.run A o s H ar us vs Q E hr⟩, hm, hk, hb⟩

section
variable {X : Cx} {CX : CXT} {k j : Nat} {sp : Sp} {E : L2.St → XK} {x : Str} {p pos : Pos}
  {e : Expr} {es : List Expr} {t : TA}
/-- f(e, ..) -/
theorem pe_cl (c : Cl X.prog X.w X.K X.mg X.base CX k x sp) (hr : Room j X.A) (hk : k ≤ j)
    (hx : ∀ σ, PassesAt CX X σ (E σ)) (ha : PA X (e :: es) t) (hg : Gl X x := by rfl)
    (hdb : (x == ("__debug__" : Str)) = false := by decide)
    (he : starEach (e :: es) X.env = (false, eval e X.env) :: starEach es X.env := by rfl)
    (hpl : (backTo pos (starEach es X.env)).any (·.1) = false := by rfl) :
    PE X (.Call (.Name x p) (e :: es) [] pos) (tCallS sp E t) := by
  obtain ⟨f, fd, ps, F, hm, kp, hb⟩ := c.ex
  exact pe_callS F (hr.mono hk) hg hm kp hb hx ha hdb he hpl
theorem pass00 : ∀ σ, PassesAt CX0 X σ ((fun _ => E0) σ) := fun _ _ _ _ _ _ _ h => h.elim
/-- f() -/
def tCall0 (sp : Sp) (E : L2.St → XK) : TE := fun σ H Q => sp [] H Q (E σ)
theorem pe_cl0 (c : Cl X.prog X.w X.K X.mg X.base CX k x sp) (hr : Room j X.A) (hk : k ≤ j)
    (hx : ∀ σ, PassesAt CX X σ (E σ)) (hg : Gl X x := by rfl)
    (hdb : (x == ("__debug__" : Str)) = false := by decide) :
    PE X (.Call (.Name x p) [] [] pos) (tCall0 sp E) := by
  obtain ⟨f, fd, ps, F, hm, kp, hb⟩ := c.ex
  refine ⟨fun pins s σ H Q I h => ?_⟩
  refine wpAny_Call_Name_kw (ld_glob I hg hm ?_ hdb)
  exact PySem.W.callWith_K0 I.kIn kp (run_fnS (us := []) (E := E) F (hr.mono hk) hb (hx σ) I .nil h)

/-- the callee runs; no repr is under way -/
theorem run_G {f : Addr} {fd : FuncData} {ps : List Str} {pins : List (Addr × Obj)} {σ : L2.St} {H : Hp}
    {s : Shared} {Q : VK} {us : List Value} {vs : List V} {E1 : XK}
    (F : FnG X.prog X.w X.K X.mg X.base CX k f fd ps sp) (hr : Room k X.A) (hgd : X.A.guards = some [])
    (hb : Binds X.K fd ps []) (hx : PassesAt CX X σ E1) (I : Inv X pins σ H s) (r : Vals vs us)
    (h : sp vs H Q E1) : wpAny (model X.prog X.w) X.A (call (.ref f) us) (EP X pins σ Q) X.xe s := by
  have hl : us.length = ps.length := r.length.symm.trans (F.len _ _ _ _ h)
  have b := hb s us I.kIn (by rw [List.append_nil]; exact hl)
  rw [List.append_nil] at b
  have c := F.run X.A X.stack s H ⟨us, []⟩ us vs Q E1 hr hgd I.env0 b r h
  refine wpAny_call (codeAny_mono c fun res s' hq => ?_)
  match res, hq with
  | .error er, hq => exact hx pins H s er s' I hq
  | .ok (.ret _), hq => exact I.after hq
  | .ok .next, hq => exact hq.elim
  | .ok .brk, hq => exact hq.elim
  | .ok .cont, hq => exact hq.elim
theorem pe_clG (c : ClG X.prog X.w X.K X.mg X.base CX k x sp) (hr : Room j X.A) (hk : k ≤ j)
    (hgd : X.A.guards = some []) (hx : ∀ σ, PassesAt CX X σ (E σ)) (ha : PA X (e :: es) t)
    (hg : Gl X x := by rfl) (hdb : (x == ("__debug__" : Str)) = false := by decide)
    (he : starEach (e :: es) X.env = (false, eval e X.env) :: starEach es X.env := by rfl)
    (hpl : (backTo pos (starEach es X.env)).any (·.1) = false := by rfl) :
    PE X (.Call (.Name x p) (e :: es) [] pos) (tCallS sp E t) := by
  obtain ⟨f, fd, ps, F, hm, kp, hb⟩ := c.ex
  refine ⟨fun pins s σ H Q I h => wpAny_Call_Name_kw (ld_glob I hg hm ?_ hdb)⟩
  have st := thn (ha.run pos pins s σ H _ I h) (Q' := fun us s1 => X.K.In s1.heap ∧
    wpAny (model X.prog X.w) X.A (call (.ref f) us) (EP X pins σ Q) X.xe s1)
    (fun us s1 ⟨vs, H1, I1, r, q⟩ => ⟨I1.kIn, run_G F (hr.mono hk) hgd hb (hx σ) I1 r q⟩)
  exact PySem.W.callWith_K (h₀ := X.base) I.ok.mod.kin kp st he hpl
end

/-! ### a def's body, where no repr is under way -/
section
variable {P : Program} {w : World} {K : PySem.W.Frag} {mg : Str → Option Value} {base : Heap}
theorem okG {x qual : Str} {st : Stmt} {f : Addr} {fd : FuncData} {N ps : List Str} {k : Nat} {sp : Sp}
    (F : Fun K x qual st f fd) (S : FnScope N ps (defScope st))
    (len : ∀ vs H Q E, sp vs H Q E → vs.length = ps.length)
    (hbody : ∀ (cdv : Value) (A : Around) (outer : List Env) (s : Shared) (H : Hp) (vs : List V) (Q : VK) (E : XK),
      Room k (A.deeper (envOfC qual (defScope st) s.heap.objs.size f cdv)) → A.guards = some [] → sp vs H Q E →
      ∃ t, PSs (cxOf CX0 P w K mg base N qual (defScope st) f cdv A outer s H E).nox (defBody st) t ∧
        t { nx := fun _ H' => Q .non H', rt := Q } (start N vs) H) :
    FnG P w K mg base CX0 (k + 1) f fd ps sp := by
  obtain ⟨oc, od, kV, doc, pm, an, cdv, ct, osl, rfl, lk, hcd⟩ := F.ex
  refine ⟨len, fun A outer s H args us vs Q E hr hgd e0 hb r hsp => ?_⟩
  have hroomy := hr.depth
  have KX : K.In s.heap := e0.mod.kin.keeps fun b o e => (e0.bs b o e).1
  have lim : s.heap.NoLimit := e0.mod.nolimit.keeps fun b o e => (e0.bs b o e).1
  have hkd : ∀ y ∈ ps.zip us, (defScope st).names.lookup y.1 = some .local ∨
      ((defScope st).names.lookup y.1 = some .cell ∧
        ((cellsFrom (s.heap.objs.size + 1) (defScope st).names []).lookup y.1).isSome = true) := by
    rintro ⟨n, v⟩ hy
    have hn := (List.of_mem_zip hy).1
    cases S.par n hn with
    | inl q => exact Or.inl q
    | inr q => exact Or.inr ⟨q, PySem.W.cellsFrom_some _ _ _ (Or.inl q)⟩
  refine codeAny_call_function hroomy (KX _ _ lk) rfl S.co S.gen rfl (PySem.W.codeRec_of KX hcd)
    (hb _ _ _ _ (wpAny_newFunctionEnv_cells S.kind hkd fun env he s1 xx => ?_))
  subst he
  refine ⟨lim.keeps xx.toInCall.keep, codeAny_func ?_⟩
  obtain ⟨t, ht, hq⟩ := hbody cdv A outer s H vs Q E (hr.deeper _) hgd hsp
  have I : Inv (cxOf CX0 P w K mg base N qual (defScope st) f cdv A outer s H E) [] (start N vs) H s1 :=
    inv_start S hr.hd e0 (len _ _ _ _ hsp) r xx
  refine wpAny_mono (ht.nox.run [] s1 (start N vs) H _ I hq) (fun fl s' hs => ?_) fun e s' hs => hs
  match fl, hs with
  | .ret u, ⟨v, σ', H', J, rv, q⟩ => exact ⟨v, H', J.os, J.bare, J.base, J.hok, rv, q⟩
  | .next, ⟨σ', H', J, q⟩ => exact ⟨.non, H', J.os, J.bare, J.base, J.hok, rfl, q⟩
  | .brk, ⟨_, _, _, q⟩ => exact q.elim
  | .cont, ⟨_, _, _, q⟩ => exact q.elim
end
end J

set_option Elab.async false
set_option linter.all false
set_option maxRecDepth 100000
set_option maxHeartbeats 4000000
namespace J
open PySem L2 PyProof.Rows
section
variable {P : Program} {w : World} {K : PySem.W.Frag} {mg mb : Str → Option Value} {k : Nat}
  {fa a : Addr} {fd : FuncData} {x : Str} {sp : Sp} {s₁ : Shared} {vs : List Value} {ns : List Int}
def scriptO (vs : List Value) : Obj := { cls := .type "list", data := .seq vs.toArray }
/-- what is asked of the abstract heap at the law's entry -/
structure AtStart (P : Program) (w : World) (K : PySem.W.Frag) (s₁ : Shared) (a : Addr) (ns : List Int) (H : Hp) : Prop where
  only : Only H
  seq : SqL K H a (ns.map V.int)
  ok : HOk P w H s₁.heap
  at_a : ∀ b, H b ≠ none → b = a
  fr : H a ≠ none → K.lookup a = none
theorem start_any (KX : K.In s₁.heap) (ha : s₁.heap.get? a = some (scriptO vs)) (hi : IntsAre vs ns)
    (hl : ns.length ≤ sizeLine) : ∃ H, AtStart P w K s₁ a ns H := by
  have rv := vals_ints hi
  have hlen := hi.length
  cases hk : K.lookup a with
  | some o =>
    have e : o = scriptO vs := Option.some.inj ((KX a o hk).symm.trans ha)
    subst e
    refine ⟨fun _ => none, fun _ => .inl rfl, .inr ?_, fun b u z => (nomatch z), fun b z => absurd rfl z, fun z => absurd rfl z⟩
    exact ⟨_, vs.toArray, _, hk, rfl, rfl, rfl, by rw [List.size_toArray, hlen]; exact hl, by simpa using rv⟩
  | none =>
    have at1 : ∀ b, (if b = a then some (HO.frz (scriptO vs) (.lst (ns.map V.int))) else none) ≠ none → b = a := by
      intro b z
      by_cases hb : b = a
      · exact hb
      · rw [if_neg hb] at z
        exact absurd rfl z
    refine ⟨fun b => if b = a then some (.frz (scriptO vs) (.lst (ns.map V.int))) else none, fun b => ?_,
      .inl (.inr ⟨scriptO vs, if_pos rfl⟩), fun b u z => ?_, at1, fun _ => hk⟩
    · by_cases hb : b = a
      · exact .inr ⟨_, _, if_pos hb⟩
      · exact .inl (if_neg hb)
    · have hb : b = a := at1 b (by rw [z]; exact fun q => nomatch q)
      subst hb
      rw [if_pos rfl] at z
      cases z
      exact ⟨ha, by rw [List.length_map]; exact hl, vs, _, rv, ha⟩
theorem law_runG (KX : K.In s₁.heap) (hns : s₁.heap.Ns mainGlobals mg) (hb : s₁.heap.Ns builtinsNs mb)
    (hbb : ∀ x : Str, x ≠ "__name__" → mb x = bootBuiltins x) (hlim : s₁.heap.NoLimit) (hg : s₁.gens = #[])
    (ha : s₁.heap.get? a = some (scriptO vs)) (hi : IntsAre vs ns) (hl : ns.length ≤ sizeLine) (hr : Room k callerA)
    (F : ∀ base : Heap, K.In base → base.Ns mainGlobals mg → FnG P w K mg base CX0 k fa fd [x] sp)
    (hbind : ∀ (s : Shared) (u : Value), BindsTo s fd ⟨[u], []⟩ [(x, u)])
    (hsp : ∀ H : Hp, Only H → SqL K H a (ns.map V.int) → sp [.ref a] H (fun v _ => v = .bl true) fun _ _ _ => False) :
    codeAny (model P w) callerA (.call (.ref fa) ⟨[.ref a], []⟩)
      (fun r s' => r = .ok (.ret (.bool true)) ∧ OldK s₁.heap s'.heap ∧ s'.os = s₁.os ∧ AllBare s'.gens) s₁ := by
  obtain ⟨H, hO, hS, hok, hA, hK⟩ := start_any (P := P) (w := w) KX ha hi hl
  have bare_of {b : Addr} {o : Obj} {es : Array DictEntry} {ep : Nat} (e : s₁.heap.get? b = some o)
      (d : o.data = .dict es ep) : H b = none := Decidable.byContradiction fun q => by
    obtain rfl : b = a := hA b q
    rw [ha] at e
    cases e
    cases (show Data.seq vs.toArray _ = Data.dict es ep from d)
  have nsK {b : Addr} {m : Str → Option Value} (n : s₁.heap.Ns b m) : (hidT s₁.heap H).Ns b m := by
    obtain ⟨o, es, ep, e, d, r⟩ := n
    exact ⟨o, es, ep, hidT_get e (bare_of e d), d, r⟩
  have hKb : K.In (hidT s₁.heap H) := fun b o e => by
    refine hidT_get (KX b o e) (Decidable.byContradiction fun q => ?_)
    obtain rfl : b = a := hA b q
    rw [hK q] at e
    cases e
  obtain ⟨mc, l1, l2⟩ := hlim
  have hM : Mod K mg (hidT s₁.heap H) := ⟨hKb, nsK hns, ⟨mb, nsK hb, hbb⟩, ⟨mc, nsK l1, l2⟩⟩
  have nin : ∀ b : Addr, b ∉ frs ([] : List Env) := fun b z => absurd (show b ∈ ([] : List Addr) from z) (by simp)
  have e0 : Env0 P w K mg (hidT s₁.heap H) callerA [] s₁ H :=
    ⟨rfl, hM, fun b o e => of_hidT e, Nat.le_of_eq (hidT_size _ _), trivial, fun b z => absurd z (nin b), hok, .of_eq hg⟩
  have run := (F _ hKb (nsK hns)).run callerA [] s₁ H ⟨[.ref a], []⟩ [.ref a] [.ref a] _ _ hr rfl e0
    (hbind s₁ (.ref a)) (.cons rfl .nil) (hsp H hO hS)
  refine codeAny_mono run fun r s' h => ?_
  match r, h with
  | .error e, h => exact h.elim
  | .ok .next, h => exact h.elim
  | .ok .brk, h => exact h.elim
  | .ok .cont, h => exact h.elim
  | .ok (.ret u), ⟨v, H', os, bare, un, hok', r', q⟩ =>
    have q' : v = .bl true := q
    subst q'
    obtain rfl : u = Value.bool true := r'
    refine ⟨rfl, OldK.of_keep fun b o e => ?_, os, bare⟩
    rcases hO b with z | ⟨ob, xs, z⟩
    · exact un.keep b o e z (nin b) (by simp)
    · obtain ⟨e1, _⟩ := hok b _ z
      obtain ⟨e2, _⟩ := hok' b _ (un.frzs b ob _ z)
      rw [Option.some.inj (e.symm.trans e1)]
      exact e2
end
/-- the end of a law over FnG -/
theorem walk_ofG {l : PySem.W.OpenLaw} {n k : Nat} {q : Program} {loose : List Str}
    {XP : (Str → Option Value) → Heap → Prop} {YP : World → Heap → Prop} {d : DefRec}
    {K : Params → PySem.W.Frag} {sp : PySem.W.Frag → Sp} {x : Str}
    (hn : l.most = some n) (hn2 : n ≤ sizeLine) (hdf : d.params.defaults = []) (hr : Room k callerA)
    (hY : ∀ (w : World) (h : Heap), YP w h → (K w.params).In h)
    (F : ∀ (w : World) (mg : Str → Option Value) (fa : Addr) (h : Heap), (K w.params).In h → h.Ns mainGlobals mg →
      mg d.name = some (.ref fa) → ∃ fd : FuncData, (∀ (s : Shared) (u : Value), BindsTo s fd ⟨[u], []⟩ [(x, u)]) ∧
        ∀ base : Heap, (K w.params).In base → base.Ns mainGlobals mg →
          FnG l.prog w (K w.params) mg base CX0 k fa fd [x] (sp (K w.params)))
    (hsp : ∀ (K : PySem.W.Frag) (H : Hp) (a : Addr) (ns : List Int), ns.length ≤ n → Only H →
      SqL K H a (ns.map V.int) → sp K [.ref a] H (fun v _ => v = .bl true) fun _ _ _ => False) :
    PySem.W.WalkO q loose XP YP l.row.toRowW d [] (fun f vs => PySem.call f vs) := by
  refine Att.attach_call hn hdf fun w s₀ s₁ mg mb fa o pm cd doc a vs ns G Y ho hd hcd hmg hobj hints hlen hg => ?_
  have KX := hY w _ Y
  obtain ⟨fd, hb, hF⟩ := F w mg fa _ KX G.T.g hmg
  exact law_runG KX G.T.g G.T.b G.T.builtins G.T.nolimit hg hobj hints (Nat.le_trans hlen hn2) hr hF hb
    (fun H hO hS => hsp _ H a ns hlen hO hS)
end J

set_option Elab.async false
set_option linter.all false
set_option maxRecDepth 100000
set_option maxHeartbeats 4000000
namespace J
open PySem L2 PyProof.Rows

/-! ### frames -/
def Imm : HO → Prop
  | .tup _ => True
  | .frz _ _ => True
  | _ => False
/-- all but what stands at the addresses S is as it was; tuples and locked things stay in any case -/
structure But (S : List Addr) (H H' : Hp) : Prop where
  keep : ∀ b o, H b = some o → b ∉ S → H' b = some o
  imm : ∀ b o, H b = some o → Imm o → H' b = some o
  live : ∀ b, H b ≠ none → H' b ≠ none
section
variable {S T : List Addr} {H H' H1 H2 : Hp} {a b p : Addr} {o o' : HO} {K : PySem.W.Frag} {xs : List V}
theorem But.refl : But S H H := ⟨fun _ _ e _ => e, fun _ _ e _ => e, fun _ e => e⟩
theorem But.trans (h : But S H H1) (h' : But S H1 H2) : But S H H2 :=
  ⟨fun b o e n => h'.keep b o (h.keep b o e n) n, fun b o e i => h'.imm b o (h.imm b o e i) i, fun b e => h'.live b (h.live b e)⟩
theorem But.sub (h : But S H H') (hs : ∀ s ∈ S, s ∈ T) : But T H H' :=
  ⟨fun b o e n => h.keep b o e fun z => n (hs b z), h.imm, h.live⟩
theorem But.of_same (h : Same H H') : But S H H' := ⟨fun b o e _ => h b o e, fun b o e _ => h b o e, fun b e => by
  cases q : H b with
  | none => exact absurd q e
  | some o => rw [h b o q]; exact fun z => nomatch z⟩
theorem But.same (h : But [] H H') : Same H H' := fun b o e => h.keep b o e (by simp)
theorem But.new (h : H p = none) : But S H (upd H p o) := But.of_same fun b u e => by
  rw [upd_ne (ne_of_none e h)]; exact e
theorem But.write (h : H p = some o) (ni : ¬ Imm o) (hp : p ∈ S) : But S H (upd H p o') :=
  ⟨fun b u e n => by rw [upd_ne (fun z : b = p => n (by rw [z]; exact hp))]; exact e,
   fun b u e i => by
    have hb : b ≠ p := fun z => by subst z; rw [h] at e; cases e; exact ni i
    rw [upd_ne hb]; exact e,
   fun b e => by
    by_cases hb : b = p
    · rw [hb, upd_same]; exact fun z => nomatch z
    · rw [upd_ne hb]; exact e⟩
theorem But.drop (h : But (p :: S) H H') (hp : H p = none) : But S H H' :=
  ⟨fun b o e n => h.keep b o e fun z => (List.mem_cons.mp z).elim (fun q => ne_of_none e hp q) n, h.imm, h.live⟩
theorem But.at (h : But S H H') (e : H a = some o) (n : a ∉ S) : H' a = some o := h.keep a o e n
theorem But.tup (h : But S H H') (e : H a = some (.tup xs)) : H' a = some (.tup xs) := h.imm a _ e trivial
theorem But.free (h : But S H H') (e : H' p = none) : H p = none := Decidable.byContradiction fun q => h.live p q e
theorem But.rdT (h : But S H H') (e : Rd H a (.tup xs)) : Rd H' a (.tup xs) := by
  rcases e with e | ⟨o, e⟩
  · exact .inl (h.imm _ _ e trivial)
  · exact .inr ⟨o, h.imm _ _ e trivial⟩
theorem But.sqT (h : But S H H') (e : SqT K H a xs) : SqT K H' a xs := e.imp h.rdT id
theorem But.rdL (h : But S H H') (e : Rd H a (.lst xs)) (n : a ∉ S) : Rd H' a (.lst xs) := by
  rcases e with e | ⟨o, e⟩
  · exact .inl (h.keep _ _ e n)
  · exact .inr ⟨o, h.imm _ _ e trivial⟩
theorem But.sqL (h : But S H H') (e : SqL K H a xs) (n : a ∉ S) : SqL K H' a xs := e.imp (fun z => h.rdL z n) id
theorem live_of (e : H a = some o) : H a ≠ none := by rw [e]; exact fun z => nomatch z
/-- a store, its heap by a name -/
theorem upd_ex (h : H p = some (.lst xs)) {o' : HO} : ∃ H', upd H p o' = H' ∧ But [p] H H' ∧ H' p = some o' :=
  ⟨_, rfl, But.write h (fun z => z) (by simp), upd_same⟩
theorem upd_exD {kvs : List (Key × V)} (h : H p = some (.dK kvs)) {o' : HO} : ∃ H', upd H p o' = H' ∧ But [p] H H' ∧ H' p = some o' :=
  ⟨_, rfl, But.write h (fun z => z) (by simp), upd_same⟩
theorem upd_exI {C dx : Addr} {fs : List (Str × V)} (h : H p = some (.ins C dx fs)) {o' : HO} : ∃ H', upd H p o' = H' ∧ But [p] H H' ∧ H' p = some o' :=
  ⟨_, rfl, But.write h (fun z => z) (by simp), upd_same⟩
/-- the addresses are in use -/
def Live (S : List Addr) (H : Hp) : Prop := ∀ s ∈ S, H s ≠ none
theorem Live.nil : Live [] H := fun _ z => nomatch z
theorem Live.cons (e : H a = some o) (h : Live S H) : Live (a :: S) H := fun s hs =>
  (List.mem_cons.mp hs).elim (fun q => by rw [q]; exact live_of e) (h s)
theorem Live.but (h : Live S H) (b : But T H H') : Live S H' := fun s hs => b.live s (h s hs)
theorem Live.ne (h : Live S H) (e : H p = none) : p ∉ S := fun z => h p z e
end

section
variable {S T : List Addr} {H H' H1 : Hp} {a b : Addr} {o : HO} {xs : List V} {K : PySem.W.Frag}
theorem ni_cons (h : a ≠ b) (h' : a ∉ S) : a ∉ b :: S := fun z => (List.mem_cons.mp z).elim h h'
theorem same_at (h : Same H H') (e : H a = some o) : H' a = some o := h a o e
theorem but_at (h : But S H H') (e : H a = some o) (n : a ∉ S) : H' a = some o := h.keep a o e n
theorem but_tup (h : But S H H') (e : H a = some (.tup xs)) : H' a = some (.tup xs) := h.tup e
theorem same_sqL (h : Same H H') (e : SqL K H a xs) : SqL K H' a xs := h.seq e
theorem same_sqT (h : Same H H') (e : SqT K H a xs) : SqT K H' a xs := (But.of_same (S := []) h).sqT e
theorem but_sqT (h : But S H H') (e : SqT K H a xs) : SqT K H' a xs := h.sqT e
theorem but_sqL (h : But S H H') (e : SqL K H a xs) (n : a ∉ S) : SqL K H' a xs := h.sqL e n
theorem lv_same (b : Same H H') (h : H a ≠ none) : H' a ≠ none := (But.of_same (S := []) b).live a h
theorem lv_but (b : But S H H') (h : H a ≠ none) : H' a ≠ none := b.live a h
theorem ne_live (h : H a ≠ none) (e : H b = none) : b ≠ a := fun z => h (z ▸ e)
/-- what was in use is in use -/
def Le (H H' : Hp) : Prop := ∀ b, H b ≠ none → H' b ≠ none
theorem Le.refl : Le H H := fun _ h => h
theorem le_same (h : Le H H1) (b : Same H1 H') : Le H H' := fun a e => (But.of_same (S := []) b).live a (h a e)
theorem le_but (h : Le H H1) (b : But T H1 H') : Le H H' := fun a e => b.live a (h a e)
theorem fr_le (h : Le H H') (e : H' a = none) : H a = none := Decidable.byContradiction fun q => h a q e
theorem bt_same (h : But S H H1) (b : Same H1 H') : But S H H' := h.trans (But.of_same b)
theorem bt_but (h : But S H H1) (b : But T H1 H') (c : ∀ t ∈ T, t ∈ S ∨ H t = none) : But S H H' :=
  ⟨fun x o e n => b.keep x o (h.keep x o e n) fun z => (c x z).elim n (fun q => ne_of_none e q rfl),
   fun x o e i => b.imm x o (h.imm x o e i) i, fun x e => b.live x (h.live x e)⟩
theorem sub_nil : ∀ s ∈ ([] : List Addr), s ∈ S := fun _ z => nomatch z
theorem sub_cons (h : a ∈ S) (k : ∀ s ∈ T, s ∈ S) : ∀ s ∈ a :: T, s ∈ S := fun t z => (List.mem_cons.mp z).elim (fun q => q ▸ h) (k t)
theorem bc_nil : ∀ t ∈ ([] : List Addr), t ∈ S ∨ H t = none := fun _ z => nomatch z
theorem bc_in (h : a ∈ S) (k : ∀ t ∈ T, t ∈ S ∨ H t = none) : ∀ t ∈ a :: T, t ∈ S ∨ H t = none :=
  fun t z => (List.mem_cons.mp z).elim (fun q => .inl (q ▸ h)) (k t)
theorem bc_fr (h : H a = none) (k : ∀ t ∈ T, t ∈ S ∨ H t = none) : ∀ t ∈ a :: T, t ∈ S ∨ H t = none :=
  fun t z => (List.mem_cons.mp z).elim (fun q => .inr (q ▸ h)) (k t)
end
/-! ### data: none of its lists is one of S -/
mutual
inductive Dn (K : PySem.W.Frag) (S : List Addr) (H : Hp) : V → PyData → Prop
  | non : Dn K S H .non .none
  | bl (b : Bool) : Dn K S H (.bl b) (.bool b)
  | int (i : Int) : Dn K S H (.int i) (.int i)
  | str (x : Str) : Dn K S H (.str x) (.str x)
  | lst {a : Addr} {xs : List V} {ds : List PyData} : H a = some (.lst xs) → a ∉ S → DnAll K S H xs ds → Dn K S H (.ref a) (.list ds)
  | tup {a : Addr} {xs : List V} {ds : List PyData} : SqT K H a xs → DnAll K S H xs ds → Dn K S H (.ref a) (.tuple ds)
inductive DnAll (K : PySem.W.Frag) (S : List Addr) (H : Hp) : List V → List PyData → Prop
  | nil : DnAll K S H [] []
  | cons {v : V} {vs : List V} {d : PyData} {ds : List PyData} : Dn K S H v d → DnAll K S H vs ds → DnAll K S H (v :: vs) (d :: ds)
end
section
variable {S T : List Addr} {H H' : Hp} {K : PySem.W.Frag} {v : V} {d : PyData} {vs ws : List V} {ds es : List PyData}
theorem Dn.map (hl : ∀ a xs, H a = some (.lst xs) → a ∉ S → H' a = some (.lst xs) ∧ a ∉ T) (ht : ∀ a xs, SqT K H a xs → SqT K H' a xs)
    (h : Dn K S H v d) : Dn K T H' v d := by
  refine Dn.rec (motive_1 := fun v d _ => Dn K T H' v d) (motive_2 := fun vs ds _ => DnAll K T H' vs ds) ?_ ?_ ?_ ?_ ?_ ?_ ?_ ?_ h
  · exact .non
  · exact .bl
  · exact .int
  · exact .str
  · intro a xs ds h1 h2 _ h4
    obtain ⟨q1, q2⟩ := hl a xs h1 h2
    exact .lst q1 q2 h4
  · intro a xs ds h1 _ h3
    exact .tup (ht a xs h1) h3
  · exact .nil
  · intro v vs d ds _ _ h1 h2
    exact .cons h1 h2
theorem DnAll.each (f : ∀ v d, Dn K S H v d → Dn K T H' v d) : ∀ {vs : List V} {ds : List PyData}, DnAll K S H vs ds → DnAll K T H' vs ds
  | _, _, .nil => .nil
  | _, _, .cons h t => .cons (f _ _ h) (DnAll.each f t)
theorem Dn.but (b : But T H H') (h : Dn K S H v d) (hs : ∀ s ∈ T, s ∈ S) : Dn K S H' v d :=
  h.map (fun _ _ r n => ⟨b.at r fun z => n (hs _ z), n⟩) fun _ _ r => b.sqT r
theorem Dn.same (b : Same H H') (h : Dn K S H v d) : Dn K S H' v d := h.but (But.of_same (S := []) b) (by simp)
theorem Dn.sub (h : Dn K S H v d) (hs : ∀ s ∈ T, s ∈ S) : Dn K T H v d := h.map (fun _ _ r n => ⟨r, fun z => n (hs _ z)⟩) fun _ _ r => r
theorem rd_live {a : Addr} {u : HO} (r : Rd H a u) : H a ≠ none := by
  rcases r with r | ⟨o, r⟩ <;> rw [r] <;> exact fun z => nomatch z
theorem Dn.fresh {p : Addr} (h : Dn K S H v d) (hp : H p = none) : Dn K (p :: S) H v d :=
  h.map (fun a _ r n => ⟨r, fun z => (List.mem_cons.mp z).elim (fun q => live_of r (q ▸ hp)) n⟩) fun _ _ r => r
theorem DnAll.but (b : But T H H') (h : DnAll K S H vs ds) (hs : ∀ s ∈ T, s ∈ S) : DnAll K S H' vs ds := h.each fun _ _ q => q.but b hs
theorem DnAll.same (b : Same H H') (h : DnAll K S H vs ds) : DnAll K S H' vs ds := h.each fun _ _ q => q.same b
theorem DnAll.sub (h : DnAll K S H vs ds) (hs : ∀ s ∈ T, s ∈ S) : DnAll K T H vs ds := h.each fun _ _ q => q.sub hs
theorem DnAll.fresh {p : Addr} (h : DnAll K S H vs ds) (hp : H p = none) : DnAll K (p :: S) H vs ds := h.each fun _ _ q => q.fresh hp
theorem DnAll.append : ∀ {vs : List V} {ds : List PyData}, DnAll K S H vs ds → DnAll K S H ws es → DnAll K S H (vs ++ ws) (ds ++ es)
  | _, _, .nil, h => h
  | _, _, .cons h t, h' => .cons h (DnAll.append t h')
theorem DnAll.snoc (h : DnAll K S H vs ds) (h' : Dn K S H v d) : DnAll K S H (vs ++ [v]) (ds ++ [d]) := h.append (.cons h' .nil)
theorem DnAll.length : ∀ {vs : List V} {ds : List PyData}, DnAll K S H vs ds → vs.length = ds.length
  | _, _, .nil => rfl
  | _, _, .cons _ t => congrArg (· + 1) (DnAll.length t)
theorem DnAll.get : ∀ {vs : List V} {ds : List PyData} {i : Nat} {x : V}, DnAll K S H vs ds → vs[i]? = some x → ∃ d, ds[i]? = some d ∧ Dn K S H x d
  | _, _, _, _, .nil, e => by simp at e
  | _, _, 0, _, .cons h _, e => by
    obtain rfl : _ = _ := Option.some.inj e
    exact ⟨_, rfl, h⟩
  | _, _, i + 1, x, .cons _ t, e => by
    obtain ⟨d, h1, h2⟩ := DnAll.get (i := i) t (by simpa using e)
    exact ⟨d, by simpa using h1, h2⟩
theorem DnAll.getD : ∀ {vs : List V} {ds : List PyData} {i : Nat} {d : PyData}, DnAll K S H vs ds → ds[i]? = some d → ∃ x, vs[i]? = some x ∧ Dn K S H x d
  | _, _, _, _, .nil, e => by simp at e
  | _, _, 0, _, .cons h _, e => by
    obtain rfl : _ = _ := Option.some.inj e
    exact ⟨_, rfl, h⟩
  | _, _, i + 1, x, .cons _ t, e => by
    obtain ⟨d, h1, h2⟩ := DnAll.getD (i := i) t (by simpa using e)
    exact ⟨d, by simpa using h1, h2⟩
theorem DnAll.drop : ∀ {vs : List V} {ds : List PyData} (n : Nat), DnAll K S H vs ds → DnAll K S H (vs.drop n) (ds.drop n)
  | _, _, 0, h => h
  | _, _, _ + 1, .nil => .nil
  | _, _, n + 1, .cons _ t => DnAll.drop n t
theorem DnAll.take : ∀ {vs : List V} {ds : List PyData} (n : Nat), DnAll K S H vs ds → DnAll K S H (vs.take n) (ds.take n)
  | _, _, 0, _ => .nil
  | _, _, _ + 1, .nil => .nil
  | _, _, n + 1, .cons h t => .cons h (DnAll.take n t)
theorem DnAll.ints : ∀ {ns : List Int}, DnAll K S H (ns.map V.int) (ns.map PyData.int)
  | [] => .nil
  | _ :: _ => .cons (.int _) DnAll.ints
theorem DnAll.ints_of : ∀ {vs : List V} {ns : List Int}, DnAll K S H vs (ns.map PyData.int) → vs = ns.map V.int
  | _, [], .nil => rfl
  | _, _ :: _, .cons h t => by
    cases h
    exact congrArg _ (DnAll.ints_of t)
theorem DnAll.one (h : Dn K S H v d) : DnAll K S H [v] [d] := .cons h .nil
theorem Dn.dp (h : Dn K S H v d) : Dp K H v d := by
  refine Dn.rec (motive_1 := fun v d _ => Dp K H v d) (motive_2 := fun vs ds _ => DpAll K H vs ds) ?_ ?_ ?_ ?_ ?_ ?_ ?_ ?_ h
  · exact .non
  · exact .bl
  · exact .int
  · exact .str
  · intro a xs ds h1 _ _ h4
    exact .lst (SqL.of h1) h4
  · intro a xs ds h1 _ h3
    exact .tup h1 h3
  · exact .nil
  · intro v vs d ds _ _ h1 h2
    exact .cons h1 h2
end
end J

set_option Elab.async false
set_option linter.all false
set_option maxRecDepth 100000
set_option maxHeartbeats 4000000
namespace J
open PySem L2 PyProof.Rows

/-! ### operators whatever the values' kinds -/
def rCatS : R2 := fun x y H Q => ∃ i j, x = .str i ∧ y = .str j ∧ i.length + j.length ≤ sizeLine ∧ Q (.str (i ++ j)) H
def rAddA (K : PySem.W.Frag) : R2 := fun x y H Q => rI0 (fun i j => .int (i + j)) x y H Q ∨ (rCatS x y H Q ∨ (rCat x y H Q ∨ rCatA K x y H Q))
def rMulA (K : PySem.W.Frag) : R2 := fun x y H Q => rI CMul (fun i j => .int (i * j)) x y H Q ∨ (rRep x y H Q ∨ rRepT K x y H Q)
def rEqA (K : PySem.W.Frag) : R2 := fun x y H Q => rEq x y H Q ∨ rEqD K x y H Q
def rNeA (K : PySem.W.Frag) : R2 := fun x y H Q => rNe x y H Q ∨ rNeD K x y H Q
def rLtS : R2 := fun x y H Q => ∃ i j, x = .str i ∧ y = .str j ∧ Q (.bl (decide (i.cps.toList < j.cps.toList))) H
def rLtA : R2 := fun x y H Q => rI0 (fun i j => .bl (decide (i < j))) x y H Q ∨ rLtS x y H Q
/-- in a tuple of data -/
def rInDT (K : PySem.W.Frag) : R2 := fun x y H Q => ∃ d ds, Dp K H x d ∧ Dp K H y (.tuple ds) ∧ SeqAt.shaped d = true ∧ SeqAt.shaped (.tuple ds) = true ∧ Q (.bl (ds.any fun z => PyData.eqv z d)) H
def rNiDT (K : PySem.W.Frag) : R2 := fun x y H Q => ∃ d ds, Dp K H x d ∧ Dp K H y (.tuple ds) ∧ SeqAt.shaped d = true ∧ SeqAt.shaped (.tuple ds) = true ∧ Q (.bl (!ds.any fun z => PyData.eqv z d)) H
theorem op_inDT {X : Cx} (hu : X.A.units + 65 < cLine) : OpR X (compareOp .In) (rInDT X.K) := by
  rintro pins s σ H x y v u Q I rx ry ⟨d, ds, hd, he, sd, se, q⟩
  obtain ⟨_, r1⟩ := Dp.reads I d x v hd rx
  obtain ⟨_, r2⟩ := Dp.reads I (.tuple ds) y u he ry
  refine SeqAt.in_tuple_reads r2 r1 (SeqAt.canLay_of_shaped se) (SeqAt.canLay_of_shaped sd) ?_ ⟨.bl _, H, I, rfl, q⟩
  have := SeqAt.depth_of_shaped sd
  omega
theorem op_niDT {X : Cx} (hu : X.A.units + 65 < cLine) : OpR X (compareOp .NotIn) (rNiDT X.K) := by
  rintro pins s σ H x y v u Q I rx ry ⟨d, ds, hd, he, sd, se, q⟩
  obtain ⟨_, r1⟩ := Dp.reads I d x v hd rx
  obtain ⟨_, r2⟩ := Dp.reads I (.tuple ds) y u he ry
  refine SeqAt.notIn_tuple_reads r2 r1 (SeqAt.canLay_of_shaped se) (SeqAt.canLay_of_shaped sd) ?_ ⟨.bl _, H, I, rfl, q⟩
  have := SeqAt.depth_of_shaped sd
  omega
def rInA (K : PySem.W.Frag) : R2 := fun x y H Q => rIn K false x y H Q ∨ (rInD K x y H Q ∨ rInDT K x y H Q)
def rNiA (K : PySem.W.Frag) : R2 := fun x y H Q => rIn K true x y H Q ∨ (rNotInD K x y H Q ∨ rNiDT K x y H Q)
def rIadd : R2 := fun x y H Q => rI0 (fun i j => .int (i + j)) x y H Q ∨ (rCatS x y H Q ∨ rExt2 x y H Q)
theorem units65 {k : Nat} {A : Around} (r : Room k A) : A.units + 65 < cLine := by have := r.un; omega
def rLenA (K : PySem.W.Frag) : List V → Hp → VK → Prop := fun xs H Q => ∃ x n, xs = [x] ∧ LenV K x H n ∧ Q (.int n) H
def rListA (K : PySem.W.Frag) : List V → Hp → VK → Prop := fun xs H Q => ∃ p ys, xs = [.ref p] ∧ (SqL K H p ys ∨ SqT K H p ys) ∧ ∀ l, H l = none → Q (.ref l) (upd H l (.lst ys))
def rTupA (K : PySem.W.Frag) : List V → Hp → VK → Prop := fun xs H Q => ∃ p ys, xs = [.ref p] ∧ ((SqL K H p ys ∧ ∀ l, H l = none → Q (.ref l) (upd H l (.tup ys))) ∨ (SqT K H p ys ∧ Q (.ref p) H))
def tTruA (K : PySem.W.Frag) (ta : TE) : TT := fun σ H R => ta σ H fun x H' => ∃ k, TruV K x H' k ∧ R k H'
def rSlAny (K : PySem.W.Frag) : V → Option Int → Option Int → Hp → VK → Prop := fun x lo hi H Q => rSlL K x lo hi H Q ∨ rSlA K x lo hi H Q
section
variable {X : Cx} {K : PySem.W.Frag}
theorem op_addA (e : X.K = K := by rfl) : OpR X (binaryOp .Add) (rAddA K) := by
  subst e; exact OpR.or op_add (OpR.or op_add_str (OpR.or op_cat op_catA))
theorem op_mulA (e : X.K = K := by rfl) : OpR X (binaryOp .Mult) (rMulA K) := by
  subst e; exact OpR.or op_mul (OpR.or op_rep op_repT)
theorem op_eqA (hu : X.A.units + 64 < cLine) (e : X.K = K := by rfl) : OpR X (compareOp .Eq) (rEqA K) := by
  subst e; exact OpR.or op_eq (op_eqD hu)
theorem op_neA (hu : X.A.units + 64 < cLine) (e : X.K = K := by rfl) : OpR X (compareOp .NotEq) (rNeA K) := by
  subst e; exact OpR.or op_ne (op_neD hu)
theorem op_ltA : OpR X (compareOp .Lt) rLtA := OpR.or op_lt op_lt_str
theorem op_inA (hu : X.A.units + 65 < cLine) (e : X.K = K := by rfl) : OpR X (compareOp .In) (rInA K) := by
  subst e; exact OpR.or op_in_seq (OpR.or (op_inD hu) (op_inDT hu))
theorem op_niA (hu : X.A.units + 65 < cLine) (e : X.K = K := by rfl) : OpR X (compareOp .NotIn) (rNiA K) := by
  subst e; exact OpR.or op_notIn_seq (OpR.or (op_notInD hu) (op_niDT hu))
theorem ip_addA : PIp X .Add rIadd := OpR.or (f := inplaceOp .Add) iop_add (OpR.or (f := inplaceOp .Add) iop_add_str iop_ext)
theorem ip_subA : PIp X .Sub (rI0 fun i j => .int (i - j)) := iop_sub
theorem ix_any (e : X.K = K := by rfl) : IxR X (rIx K) := by subst e; exact ix_seq
theorem sl_any (e : X.K = K := by rfl) : SlR X (rSlAny K) := by subst e; exact SlR.or sl_list sl_tupA
theorem call_lenA (e : X.K = K := by rfl) : CallR X (.builtin "len") (rLenA K) := by subst e; exact call_len
theorem call_listA (e : X.K = K := by rfl) : CallR X (.type "list") (rListA K) := by subst e; exact call_list_of
theorem call_tupleA (e : X.K = K := by rfl) : CallR X (.type "tuple") (rTupA K) := by subst e; exact call_tuple_of
theorem call_reprA (hg : X.A.guards = some []) (hu : X.A.units + 64 < cLine) (e : X.K = K := by rfl) :
    CallR X (.builtin "repr") (rRepr K) := by subst e; exact call_reprD hg hu
theorem call_sortedPA (e : X.K = K := by rfl) : CallR X (.builtin "sorted") (rSortedPO K) := by subst e; exact cr_sortedPO
theorem call_sortedIA (e : X.K = K := by rfl) : CallR X (.builtin "sorted") (rSortedI K) := by subst e; exact cr_sortedI
theorem call_sumA (hc : X.calm = true) (e : X.K = K := by rfl) : CallR X (.builtin "sum") (rSum K) := by subst e; exact cr_sum hc
theorem call_allA (hc : X.calm = true) (e : X.K = K := by rfl) : CallR X (.builtin "all") (rAll K) := by subst e; exact cr_all hc
theorem call_anyA (hc : X.calm = true) (e : X.K = K := by rfl) : CallR X (.builtin "any") (rAny K) := by subst e; exact cr_any hc
theorem pi_lst {tg l : Expr} {tl : TE} (hl : PE X l tl) (e : X.K = K := by rfl) : PI X tg l (iList K tl) := by subst e; exact pi_list hl
theorem pi_tpl {tg l : Expr} {tl : TE} (hl : PE X l tl) (e : X.K = K := by rfl) : PI X tg l (iTup K tl) := by subst e; exact pi_tup hl
theorem pe_fldA {x : Expr} {ta : TE} {f : Str} {pos : Pos} (he : PE X x ta) (hb : attributeBase x f X.env (eval x X.env) = eval x X.env := by rfl)
    (e : X.K = K := by rfl) : PE X (.Attribute x f pos) (tFld K ta f) := by subst e; exact pe_fld he hb
theorem pt_tru {a : Expr} {ta : TE} (ha : PE X a ta) (he : ∀ whole, isTrue a X.env whole = (do let v ← whole; standAt a.pos; holding [v] (truthy v)) := by intro _; rfl)
    (e : X.K = K := by rfl) : PT X a (tTruA K ta) := by subst e; exact pt_truth ha he
theorem pg_tpl {es : List Expr} {k n : Nat} {t : TGs} {pos : Pos} (hc : X.calm = true) (h : PGs X es t)
    (hn : (assignEach es X.env).length = n := by rfl) (hst : (assignEach es X.env).findIdx? (·.1) = none := by rfl)
    (e : X.K = K := by rfl) : PG X (.Tuple es k pos) (gTup K n t) := by subst e; exact pg_tup hc h hn hst
end

section
variable {σ : L2.St} {H H' H1 : Hp} {K : PySem.W.Frag} {Q : VK} {i j : Int} {n : Nat} {v x y : V} {te ta tb : TE} {p q : Addr} {xs ys : List V}
  {D : Ends} {t u : TS} {R : Bool → Hp → Prop}
/-! ### expressions -/
theorem r_var (h : σ[n]? = some (some v)) (k : Q v H) : tVar n σ H Q := ⟨v, h, k⟩
theorem r_c (k : Q v H) : tC v σ H Q := k
theorem r_op {r : R2} (k : ta σ H fun x H1 => tb σ H1 fun y H2 => r x y H2 Q) : tOp r ta tb σ H Q := k
theorem r_un {r : V → Hp → VK → Prop} (k : ta σ H fun x H1 => r x H1 Q) : tUn r ta σ H Q := k
theorem r_I0 {g : Int → Int → V} (k : Q (g i j) H) : rI0 g (.int i) (.int j) H Q := ⟨i, j, rfl, rfl, k⟩
theorem r_I {C : Int → Int → Prop} {g : Int → Int → V} (c : C i j) (k : Q (g i j) H) : rI C g (.int i) (.int j) H Q := ⟨i, j, rfl, rfl, c, k⟩
theorem r_U {g : Int → V} (k : Q (g i) H) : rU g (.int i) H Q := ⟨i, rfl, k⟩
theorem r_addI (k : Q (.int (i + j)) H) : rAddA K (.int i) (.int j) H Q := .inl ⟨i, j, rfl, rfl, k⟩
theorem r_addS {a b : Str} (c : a.length + b.length ≤ sizeLine) (k : Q (.str (a ++ b)) H) : rAddA K (.str a) (.str b) H Q := .inr (.inl ⟨a, b, rfl, rfl, c, k⟩)
theorem r_addL (h1 : H p = some (.lst xs)) (h2 : H q = some (.lst ys)) (c : xs.length + ys.length ≤ sizeLine)
    (k : ∀ l H', H l = none → Same H H' → H' l = some (.lst (xs ++ ys)) → Q (.ref l) H') : rAddA K (.ref p) (.ref q) H Q :=
  .inr (.inr (.inl ⟨p, q, xs, ys, rfl, rfl, h1, h2, c, fun l hl => k l _ hl (But.new (S := []) hl).same upd_same⟩))
theorem r_mulI (c : CMul i j) (k : Q (.int (i * j)) H) : rMulA K (.int i) (.int j) H Q := .inl ⟨i, j, rfl, rfl, c, k⟩
theorem mulL (h : -(2 ^ 64) < i) (h' : i < 2 ^ 64) : CMul i j := .inl ⟨h, h'⟩
theorem mulR (h : -(2 ^ 64) < j) (h' : j < 2 ^ 64) : CMul i j := .inr ⟨h, h'⟩
theorem dec_int : decide (V.int i = V.int j) = decide (i = j) := by
  by_cases h : i = j
  · subst h; simp
  · rw [decide_eq_false h, decide_eq_false fun z => h (V.int.inj z)]
theorem dec_str {a b : Str} : decide (V.str a = V.str b) = decide (a = b) := by
  by_cases h : a = b
  · subst h; simp
  · rw [decide_eq_false h, decide_eq_false fun z => h (V.str.inj z)]
theorem dec_bl {a b : Bool} : decide (V.bl a = V.bl b) = decide (a = b) := by
  by_cases h : a = b
  · subst h; simp
  · rw [decide_eq_false h, decide_eq_false fun z => h (V.bl.inj z)]
theorem r_eqI (k : Q (.bl (decide (i = j))) H) : rEqA K (.int i) (.int j) H Q := .inl ⟨rfl, by rw [dec_int]; exact k⟩
theorem r_eqS {a b : Str} (k : Q (.bl (decide (a = b))) H) : rEqA K (.str a) (.str b) H Q := .inl ⟨rfl, by rw [dec_str]; exact k⟩
theorem r_eqB {a b : Bool} (k : Q (.bl (decide (a = b))) H) : rEqA K (.bl a) (.bl b) H Q := .inl ⟨rfl, by rw [dec_bl]; exact k⟩
theorem r_eqD {d e : PyData} (h1 : Dp K H x d) (h2 : Dp K H y e) (s1 : SeqAt.shaped d = true) (s2 : SeqAt.shaped e = true) (k : Q (.bl (PyData.eqv d e)) H) : rEqA K x y H Q :=
  .inr ⟨d, e, h1, h2, s1, s2, k⟩
theorem r_neI (k : Q (.bl (!decide (i = j))) H) : rNeA K (.int i) (.int j) H Q := .inl ⟨rfl, by rw [dec_int]; exact k⟩
theorem r_neS {a b : Str} (k : Q (.bl (!decide (a = b))) H) : rNeA K (.str a) (.str b) H Q := .inl ⟨rfl, by rw [dec_str]; exact k⟩
theorem r_neB {a b : Bool} (k : Q (.bl (!decide (a = b))) H) : rNeA K (.bl a) (.bl b) H Q := .inl ⟨rfl, by rw [dec_bl]; exact k⟩
theorem r_neD {d e : PyData} (h1 : Dp K H x d) (h2 : Dp K H y e) (s1 : SeqAt.shaped d = true) (s2 : SeqAt.shaped e = true) (k : Q (.bl (!PyData.eqv d e)) H) : rNeA K x y H Q :=
  .inr ⟨d, e, h1, h2, s1, s2, k⟩
theorem r_ltI (k : Q (.bl (decide (i < j))) H) : rLtA (.int i) (.int j) H Q := .inl ⟨i, j, rfl, rfl, k⟩
theorem r_ltS {a b : Str} (k : Q (.bl (decide (a.cps.toList < b.cps.toList))) H) : rLtA (.str a) (.str b) H Q := .inr ⟨a, b, rfl, rfl, k⟩
/-- i in ints -/
theorem inV_int {ns : List Int} {i : Int} : inV (.int i) (ns.map V.int) = decide (i ∈ ns) := by
  unfold inV
  induction ns with
  | nil => rfl
  | cons a l ih =>
    rw [List.map_cons, List.any_cons, ih]
    have e : eqV (V.int a) (V.int i) = decide (a = i) := Bool.beq_eq_decide_eq a i
    rw [e, ← Bool.decide_or]
    exact decide_eq_decide.mpr (by rw [List.mem_cons, eq_comm])
theorem flat_ints (ns : List Int) : (ns.map V.int).all flatV = true := by
  rw [List.all_eq_true]
  intro v hv
  obtain ⟨i, _, rfl⟩ := List.mem_map.mp hv
  rfl
theorem r_inL {ns : List Int} (h : SqL K H p (ns.map V.int)) (k : Q (.bl (decide (i ∈ ns))) H) : rInA K (.int i) (.ref p) H Q :=
  .inl ⟨p, _, rfl, .inl h, rfl, flat_ints ns, by rw [inV_int]; exact k⟩
theorem r_inT {ns : List Int} (h : SqT K H p (ns.map V.int)) (k : Q (.bl (decide (i ∈ ns))) H) : rInA K (.int i) (.ref p) H Q :=
  .inl ⟨p, _, rfl, .inr h, rfl, flat_ints ns, by rw [inV_int]; exact k⟩
theorem r_niL {ns : List Int} (h : SqL K H p (ns.map V.int)) (k : Q (.bl (!decide (i ∈ ns))) H) : rNiA K (.int i) (.ref p) H Q :=
  .inl ⟨p, _, rfl, .inl h, rfl, flat_ints ns, by rw [inV_int]; exact k⟩
theorem r_niT {ns : List Int} (h : SqT K H p (ns.map V.int)) (k : Q (.bl (!decide (i ∈ ns))) H) : rNiA K (.int i) (.ref p) H Q :=
  .inl ⟨p, _, rfl, .inr h, rfl, flat_ints ns, by rw [inV_int]; exact k⟩
/-- subscripts -/
theorem r_ixL (h : SqL K H p xs) (a : atI xs i = some v) (k : Q v H) : rIx K (.ref p) (.int i) H Q := .inl ⟨p, xs, i, v, rfl, rfl, h, a, k⟩
theorem r_ixT (h : SqT K H p xs) (a : atI xs i = some v) (k : Q v H) : rIx K (.ref p) (.int i) H Q := .inr (.inl ⟨p, xs, i, v, rfl, rfl, h, a, k⟩)
/-- displays -/
theorem r_nil {R : List V → Hp → Prop} (k : R [] H) : tNil σ H R := k
theorem r_cons {tr : TA} {R : List V → Hp → Prop} (k : ta σ H fun x H1 => tr σ H1 fun xs H2 => R (x :: xs) H2) : tCons ta tr σ H R := k
def NewT (Q : VK) (xs : List V) (H : Hp) : Prop := xs.length ≤ sizeLine ∧ ∀ p, H p = none → Q (.ref p) (upd H p (.tup xs))
def NewL (Q : VK) (xs : List V) (H : Hp) : Prop := xs.length ≤ sizeLine ∧ ∀ p, H p = none → Q (.ref p) (upd H p (.lst xs))
theorem r_tup {ta : TA} (k : ta σ H fun xs H1 => NewT Q xs H1) : tTup ta σ H Q := k
theorem r_lst {ta : TA} (k : ta σ H fun xs H1 => NewL Q xs H1) : tLst ta σ H Q := k
theorem r_newT (c : xs.length ≤ sizeLine) (k : ∀ p H', H p = none → Same H H' → H' p = some (.tup xs) → Q (.ref p) H') : NewT Q xs H :=
  ⟨c, fun p hp => k p _ hp (But.new (S := []) hp).same upd_same⟩
theorem r_newL (c : xs.length ≤ sizeLine) (k : ∀ p H', H p = none → Same H H' → H' p = some (.lst xs) → Q (.ref p) H') : NewL Q xs H :=
  ⟨c, fun p hp => k p _ hp (But.new (S := []) hp).same upd_same⟩
/-- built-ins -/
theorem r_CB {r : List V → Hp → VK → Prop} {ta : TA} (k : ta σ H fun vs H1 => r vs H1 Q) : tCB r ta σ H Q := k
theorem r_callS {sp : Sp} {E : L2.St → XK} {ta : TA} (k : ta σ H fun vs H1 => sp vs H1 Q (E σ)) : tCallS sp E ta σ H Q := k
theorem r_if {tt : TT} (k : tt σ H fun b H1 => if b = true then ta σ H1 Q else tb σ H1 Q) : tIf tt ta tb σ H Q := k
/-! ### tests -/
theorem r_test (k : te σ H fun x H' => ∃ k, x = .bl k ∧ R k H') : tTest te σ H R := k
theorem r_tB (k : te σ H fun x H' => ∃ k, x = .bl k ∧ R k H') : tB te σ H R := k
theorem r_and {a b : TT} (k : a σ H fun c H1 => if c = true then b σ H1 R else R false H1) : tAnd a b σ H R := k
theorem r_or {a b : TT} (k : a σ H fun c H1 => if c = true then R true H1 else b σ H1 R) : tOr a b σ H R := k
theorem r_not {a : TT} (k : a σ H fun c H1 => R (!c) H1) : tNot a σ H R := k
theorem r_exb {b : Bool} {R : Bool → Prop} (k : R b) : ∃ k, V.bl b = .bl k ∧ R k := ⟨b, rfl, k⟩
theorem r_yes (k : R true H) : tYes σ H R := k
theorem r_ite {P A B : Prop} {dp : Decidable P} (h1 : P → A) (h2 : ¬ P → B) : if decide P = true then A else B := by
  by_cases h : P
  · rw [decide_eq_true h, if_pos rfl]; exact h1 h
  · rw [decide_eq_false h, if_neg Bool.false_ne_true]; exact h2 h
theorem r_iteN {P A B : Prop} {dp : Decidable P} (h1 : ¬ P → A) (h2 : P → B) : if (!decide P) = true then A else B := by
  by_cases h : P
  · rw [decide_eq_true h]
    show if false = true then A else B
    rw [if_neg Bool.false_ne_true]; exact h2 h
  · rw [decide_eq_false h]
    show if true = true then A else B
    rw [if_pos rfl]; exact h1 h
theorem r_iteB {A B : Prop} {b : Bool} (h1 : b = true → A) (h2 : b = false → B) : if b = true then A else B := by
  cases b with
  | true => rw [if_pos rfl]; exact h1 rfl
  | false => rw [if_neg Bool.false_ne_true]; exact h2 rfl
theorem r_iteT {A B : Prop} {b : Bool} (e : b = true) (h : A) : if b = true then A else B := by rw [if_pos e]; exact h
theorem r_iteF {A B : Prop} {b : Bool} (e : b = false) (h : B) : if b = true then A else B := by rw [e, if_neg Bool.false_ne_true]; exact h
/-! ### statements -/
theorem r_seq (k : t { D with nx := u D } σ H) : tSeq t u D σ H := k
theorem r_next (k : D.nx σ H) : tNext D σ H := k
theorem r_brk (k : D.bk σ H) : tBreak D σ H := k
theorem r_cont (k : D.ct σ H) : tCont D σ H := k
theorem r_asg (k : te σ H fun x H1 => D.nx (σ.set n (some x)) H1) : tAsg te (gName n) D σ H := k
theorem r_asgG {g : TG} (k : te σ H fun x H1 => g x σ H1 D.nx) : tAsg te g D σ H := k
theorem r_drop (k : te σ H fun _ H1 => D.nx σ H1) : tDrop te D σ H := k
theorem r_ret (k : te σ H D.rt) : tRet te D σ H := k
theorem r_retN (k : D.rt .non H) : tRetN D σ H := k
theorem r_ifS {c : TT} (k : c σ H fun b H1 => if b = true then t D σ H1 else u D σ H1) : tIfS c t u D σ H := k
theorem r_aug {ti : TIp} (h : σ[n]? = some (some x)) (k : te σ H fun y H1 => ti x y H1 fun z H2 => D.nx (σ.set n (some z)) H2) : tAug n te ti D σ H := ⟨x, h, k⟩
theorem r_iaddI (k : Q (.int (i + j)) H) : rIadd (.int i) (.int j) H Q := .inl ⟨i, j, rfl, rfl, k⟩
/-! ### targets -/
theorem g_name {R : L2.St → Hp → Prop} (k : R (σ.set n (some v)) H) : gName n v σ H R := k
theorem g_tup {tg : TGs} {R : L2.St → Hp → Prop} {m : Nat} (h : SqT K H p xs) (l : xs.length = m) (k : tg xs σ H R) : gTup K m tg (.ref p) σ H R := ⟨p, xs, rfl, h, l, k⟩
theorem g_cons {g : TG} {tg : TGs} {R : L2.St → Hp → Prop} (k : g v σ H fun σ' H' => tg xs σ' H' R) : gCons g tg (v :: xs) σ H R := ⟨v, xs, rfl, k⟩
theorem g_nil {R : L2.St → Hp → Prop} (k : R σ H) : gNil [] σ H R := ⟨rfl, k⟩
theorem g_sub {to ti : TE} {ts : TSet} {R : L2.St → Hp → Prop} (k : to σ H fun o H1 => ti σ H1 fun i H2 => ts o i v H2 fun H3 => R σ H3) : gSub to ti ts v σ H R := k
theorem s_lst {R : Hp → Prop} {m : Nat} (h : H p = some (.lst xs)) (a : ixN xs.length i = some m) (k : ∀ H', But [p] H H' → H' p = some (.lst (xs.set m v)) → R H') : rSetL (.ref p) (.int i) v H R :=
  ⟨p, xs, i, m, rfl, rfl, h, a, k _ (But.write h (fun z => z) (by simp)) upd_same⟩
end
end J

set_option Elab.async false
set_option linter.all false
set_option maxRecDepth 100000
set_option maxHeartbeats 4000000
namespace J
open PySem L2 PyProof.Rows
theorem sz {n : Nat} (h : n ≤ 16777216) : n ≤ sizeLine := by rw [sizeLine_eq]; exact h
theorem szl {n : Nat} (h : n < 16777216) : n < sizeLine := by rw [sizeLine_eq]; exact h
section
variable {σ : L2.St} {H H' H1 : Hp} {K : PySem.W.Frag} {Q : VK} {i j : Int} {n : Nat} {v x y : V} {te ta tb tl : TE} {p q a l : Addr} {xs ys : List V}
  {D : Ends} {t u ts : TS} {R : Bool → Hp → Prop} {g : TG}
/-! ### for -/
abbrev Turn (g : TG) (ts : TS) (D : Ends) (N : L2.St → Hp → Prop) (x : V) (σ : L2.St) (H : Hp) : Prop :=
  g x σ H fun σ2 H2 => ts { D with nx := N, ct := N, bk := D.nx } σ2 H2
def ForL (K : PySem.W.Frag) (g : TG) (ts : TS) (D : Ends) (σ : L2.St) (x : V) (H : Hp) : Prop :=
  ∃ a, x = .ref a ∧ (∃ xs, SqL K H a xs) ∧ ∃ W : Nat → Nat → L2.St → Hp → Prop, (∃ m, W 0 m σ H) ∧ ∀ i m σ H, W i m σ H →
    ((Itl K a).stop i H ∧ D.nx σ H) ∨ ((Itl K a).go i H ∧ ∃ N : L2.St → Hp → Prop, (∀ σ' H', N σ' H' → ∃ m', m' < m ∧ W (i + 1) m' σ' H') ∧
      ∀ x H', (Itl K a).yld i H x H' → Turn g ts D N x σ H')
theorem r_forL (k : tl σ H fun x H1 => ForL K g ts D σ x H1) : tFor (iList K tl) g ts D σ H := k
theorem forL (h : SqL K H a xs) (Pv : Nat → L2.St → Hp → Prop) (h0 : Pv 0 σ H) (hl : ∀ i σ H, i ≤ xs.length → Pv i σ H → SqL K H a xs)
    (hs : ∀ i x σ H, xs[i]? = some x → Pv i σ H → Turn g ts D (Pv (i + 1)) x σ H) (hd : ∀ σ H, Pv xs.length σ H → D.nx σ H) : ForL K g ts D σ (.ref a) H :=
  ⟨a, rfl, ⟨xs, h⟩, for_list Pv h0 hl hs hd⟩
def ForT (K : PySem.W.Frag) (g : TG) (ts : TS) (D : Ends) (σ : L2.St) (x : V) (H : Hp) : Prop :=
  ∃ a, x = .ref a ∧ (∃ xs, SqT K H a xs) ∧ ∃ W : Nat → Nat → L2.St → Hp → Prop, (∃ m, W 0 m σ H) ∧ ∀ i m σ H, W i m σ H →
    ((Itt K a).stop i H ∧ D.nx σ H) ∨ ((Itt K a).go i H ∧ ∃ N : L2.St → Hp → Prop, (∀ σ' H', N σ' H' → ∃ m', m' < m ∧ W (i + 1) m' σ' H') ∧
      ∀ x H', (Itt K a).yld i H x H' → Turn g ts D N x σ H')
theorem r_forT (k : tl σ H fun x H1 => ForT K g ts D σ x H1) : tFor (iTup K tl) g ts D σ H := k
theorem forT (h : SqT K H a xs) (Pv : Nat → L2.St → Hp → Prop) (h0 : Pv 0 σ H) (hl : ∀ i σ H, i ≤ xs.length → Pv i σ H → SqT K H a xs)
    (hs : ∀ i x σ H, xs[i]? = some x → Pv i σ H → Turn g ts D (Pv (i + 1)) x σ H) (hd : ∀ σ H, Pv xs.length σ H → D.nx σ H) : ForT K g ts D σ (.ref a) H :=
  ⟨a, rfl, ⟨xs, h⟩, for_tup Pv h0 hl hs hd⟩
def ForR (g : TG) (ts : TS) (D : Ends) (σ : L2.St) (vs : List V) (H : Hp) : Prop :=
  ∃ j : Int, vs = [.int j] ∧ -(2 ^ 62) ≤ j ∧ j < 2 ^ 62 ∧ ∃ W : Nat → Nat → L2.St → Hp → Prop, (∃ m, W 0 m σ H) ∧ ∀ i m σ H, W i m σ H →
    ((Itr 0 j.toNat).stop i H ∧ D.nx σ H) ∨ ((Itr 0 j.toNat).go i H ∧ ∃ N : L2.St → Hp → Prop, (∀ σ' H', N σ' H' → ∃ m', m' < m ∧ W (i + 1) m' σ' H') ∧
      ∀ x H', (Itr 0 j.toNat).yld i H x H' → Turn g ts D N x σ H')
theorem r_forR {ta : TA} (k : ta σ H fun vs H1 => ForR g ts D σ vs H1) : tFor (iRng1 ta) g ts D σ H := k
theorem forR (b : -(2 ^ 62) ≤ j ∧ j < 2 ^ 62) (Pv : Nat → L2.St → Hp → Prop) (h0 : Pv 0 σ H)
    (hs : ∀ (i : Nat) σ H, (i : Int) < j → Pv i σ H → Turn g ts D (Pv (i + 1)) (.int i) σ H) (hd : ∀ σ H, Pv j.toNat σ H → D.nx σ H) : ForR g ts D σ [.int j] H :=
  ⟨j, rfl, b.1, b.2, for_range Pv h0 (fun i σ H hi p => by
    rw [Int.zero_add]
    exact hs i σ H (by omega) p) hd⟩
def ForR2 (g : TG) (ts : TS) (D : Ends) (σ : L2.St) (vs : List V) (H : Hp) : Prop :=
  ∃ i j : Int, vs = [.int i, .int j] ∧ (-(2 ^ 62) ≤ i ∧ i < 2 ^ 62 ∧ -(2 ^ 62) ≤ j ∧ j < 2 ^ 62) ∧ ∃ W : Nat → Nat → L2.St → Hp → Prop, (∃ m, W 0 m σ H) ∧ ∀ k m σ H, W k m σ H →
    ((Itr i (j - i).toNat).stop k H ∧ D.nx σ H) ∨ ((Itr i (j - i).toNat).go k H ∧ ∃ N : L2.St → Hp → Prop, (∀ σ' H', N σ' H' → ∃ m', m' < m ∧ W (k + 1) m' σ' H') ∧
      ∀ x H', (Itr i (j - i).toNat).yld k H x H' → Turn g ts D N x σ H')
theorem r_forR2 {ta : TA} (k : ta σ H fun vs H1 => ForR2 g ts D σ vs H1) : tFor (iRng2 ta) g ts D σ H := k
theorem forR2 (b : -(2 ^ 62) ≤ i ∧ i < 2 ^ 62 ∧ -(2 ^ 62) ≤ j ∧ j < 2 ^ 62) (Pv : Nat → L2.St → Hp → Prop) (h0 : Pv 0 σ H)
    (hs : ∀ (k : Nat) σ H, i + k < j → Pv k σ H → Turn g ts D (Pv (k + 1)) (.int (i + k)) σ H) (hd : ∀ σ H, Pv (j - i).toNat σ H → D.nx σ H) : ForR2 g ts D σ [.int i, .int j] H :=
  ⟨i, j, rfl, b, for_range Pv h0 (fun k σ H hk p => hs k σ H (by omega) p) hd⟩
/-- enumerate -/
def ForE (K : PySem.W.Frag) (g : TG) (ts : TS) (D : Ends) (σ : L2.St) (vs : List V) (H : Hp) : Prop :=
  ∃ a xs, vs = [.ref a] ∧ SqL K H a xs ∧ ∃ W : Nat → Nat → L2.St → Hp → Prop, (∃ m, W 0 m σ H) ∧ ∀ i m σ H, W i m σ H →
    ((Ite K a).stop i H ∧ D.nx σ H) ∨ ((Ite K a).go i H ∧ ∃ N : L2.St → Hp → Prop, (∀ σ' H', N σ' H' → ∃ m', m' < m ∧ W (i + 1) m' σ' H') ∧
      ∀ x H', (Ite K a).yld i H x H' → Turn g ts D N x σ H')
theorem r_forE {ta : TA} (k : ta σ H fun vs H1 => ForE K g ts D σ vs H1) : tFor (iEnum K ta) g ts D σ H := k
theorem forE (h : SqL K H a xs) (Pv : Nat → L2.St → Hp → Prop) (h0 : Pv 0 σ H) (hl : ∀ i σ H, i ≤ xs.length → Pv i σ H → SqL K H a xs)
    (hs : ∀ i x σ H, xs[i]? = some x → Pv i σ H → ∀ T H', H T = none → Same H H' → H' T = some (.tup [.int (i : Nat), x]) → Turn g ts D (Pv (i + 1)) (.ref T) σ H')
    (hd : ∀ σ H, Pv xs.length σ H → D.nx σ H) : ForE K g ts D σ [.ref a] H := by
  refine ⟨a, xs, rfl, h, fun i m σ H => m = xs.length - i ∧ i ≤ xs.length ∧ Pv i σ H, ⟨_, rfl, Nat.zero_le _, h0⟩, ?_⟩
  rintro i m σ H ⟨rfl, hi, p⟩
  have q := hl i σ H hi p
  by_cases hlt : i < xs.length
  · refine .inr ⟨⟨xs, xs[i], q, by simp [hlt]⟩, Pv (i + 1), fun σ' H' p' => ⟨xs.length - (i + 1), by omega, rfl, hlt, p'⟩, fun x H' y => ?_⟩
    obtain ⟨T, z, rfl, hT, rfl, e⟩ := y
    exact hs i z σ H (e xs q) p T _ hT (But.new (S := []) hT).same upd_same
  · have e : i = xs.length := by omega
    subst e
    exact .inl ⟨⟨xs, q, Nat.le_refl _⟩, hd σ H p⟩
/-! ### comprehensions -/
/-- one turn of a comprehension: l the new list -/
abbrev LTurn (g : TG) (tt : TT) (te : TE) (vs : List Nat) (l : Addr) (N : Hp → Prop) (x : V) (σ : L2.St) (H : Hp) : Prop :=
  g x (wipe σ vs) H fun σ2 H2 => wipe σ2 vs = wipe σ vs ∧ tt σ2 H2 fun b H3 =>
    if b = true then te σ2 H3 fun y H4 => ∃ acc, H4 l = some (.lst acc) ∧ acc.length < sizeLine ∧ N (upd H4 l (.lst (acc ++ [y]))) else N H3
abbrev LcG (J : It) (g : TG) (tt : TT) (te : TE) (vs : List Nat) (σ : L2.St) (Q : VK) (H : Hp) : Prop :=
  ∀ l, H l = none → ∃ W : Nat → Nat → Hp → Prop, (∃ m, W 0 m (upd H l (.lst []))) ∧ ∀ i m H, W i m H →
    (J.stop i H ∧ Q (.ref l) H) ∨ (J.go i H ∧ ∃ N : Hp → Prop, (∀ H', N H' → ∃ m', m' < m ∧ W (i + 1) m' H') ∧ ∀ x H', J.yld i H x H' → LTurn g tt te vs l N x σ H')
def LcL (K : PySem.W.Frag) (g : TG) (tt : TT) (te : TE) (vs : List Nat) (σ : L2.St) (Q : VK) (x : V) (H : Hp) : Prop :=
  ∃ a, x = .ref a ∧ (∃ xs, SqL K H a xs) ∧ LcG (Itl K a) g tt te vs σ Q H
theorem r_lcL {tt : TT} {vs : List Nat} (k : tl σ H fun x H1 => LcL K g tt te vs σ Q x H1) : tLc (iList K tl) g tt te vs σ H Q := k
theorem lcL {tt : TT} {vs : List Nat} (h : SqL K H a xs) (mk : ∀ l H0, H l = none → Same H H0 → H0 l = some (.lst []) → ∃ Pv : Nat → Hp → Prop, Pv 0 H0 ∧ (∀ i H, i ≤ xs.length → Pv i H → SqL K H a xs) ∧
      (∀ i x H, xs[i]? = some x → Pv i H → LTurn g tt te vs l (Pv (i + 1)) x σ H) ∧ ∀ H, Pv xs.length H → Q (.ref l) H) : LcL K g tt te vs σ Q (.ref a) H := by
  refine ⟨a, rfl, ⟨xs, h⟩, fun l hl => ?_⟩
  obtain ⟨Pv, h0, h1, h2, h3⟩ := mk l _ hl (But.new (S := []) hl).same upd_same
  exact lc_list Pv h0 h1 h2 h3
def LcT (K : PySem.W.Frag) (g : TG) (tt : TT) (te : TE) (vs : List Nat) (σ : L2.St) (Q : VK) (x : V) (H : Hp) : Prop :=
  ∃ a, x = .ref a ∧ (∃ xs, SqT K H a xs) ∧ LcG (Itt K a) g tt te vs σ Q H
theorem r_lcT {tt : TT} {vs : List Nat} (k : tl σ H fun x H1 => LcT K g tt te vs σ Q x H1) : tLc (iTup K tl) g tt te vs σ H Q := k
theorem lcT {tt : TT} {vs : List Nat} (h : SqT K H a xs) (mk : ∀ l H0, H l = none → Same H H0 → H0 l = some (.lst []) → ∃ Pv : Nat → Hp → Prop, Pv 0 H0 ∧ (∀ i H, i ≤ xs.length → Pv i H → SqT K H a xs) ∧
      (∀ i x H, xs[i]? = some x → Pv i H → LTurn g tt te vs l (Pv (i + 1)) x σ H) ∧ ∀ H, Pv xs.length H → Q (.ref l) H) : LcT K g tt te vs σ Q (.ref a) H := by
  refine ⟨a, rfl, ⟨xs, h⟩, fun l hl => ?_⟩
  obtain ⟨Pv, h0, h1, h2, h3⟩ := mk l _ hl (But.new (S := []) hl).same upd_same
  exact lc_tup Pv h0 h1 h2 h3
/-- what an element's evaluation leaves: the list one item longer -/
theorem lc_put {N : Hp → Prop} (h : H l = some (.lst xs)) (c : xs.length < sizeLine) (k : ∀ H', But [l] H H' → H' l = some (.lst (xs ++ [y])) → N H') :
    ∃ acc, H l = some (.lst acc) ∧ acc.length < sizeLine ∧ N (upd H l (.lst (acc ++ [y]))) :=
  ⟨xs, h, c, k _ (But.write h (fun z => z) (by simp)) upd_same⟩
theorem r_and2 {A B : Prop} (h : A) (k : B) : A ∧ B := ⟨h, k⟩
/-! ### methods of lists -/
theorem r_bm {T : String} {r : V → List V → Hp → VK → Prop} {to : TE} {ta : TA} (k : to σ H fun x H1 => tyV K T x H1 ∧ ta σ H1 fun xs H2 => r x xs H2 Q) : tBM K T r to ta σ H Q := k
theorem r_bm0 {T : String} {r : V → List V → Hp → VK → Prop} {to : TE} (k : to σ H fun x H1 => tyV K T x H1 ∧ r x [] H1 Q) : tBM0 K T r to σ H Q := k
theorem r_tyL {B : Prop} (h : SqL K H p xs) (k : B) : tyV K "list" (.ref p) H ∧ B := ⟨.inl ⟨rfl, xs, h⟩, k⟩
theorem r_app (h : H l = some (.lst xs)) (c : xs.length < sizeLine) (k : ∀ H', But [l] H H' → H' l = some (.lst (xs ++ [v])) → Q .non H') : rAppend (.ref l) [v] H Q :=
  ⟨l, xs, v, rfl, rfl, h, c, k _ (But.write h (fun z => z) (by simp)) upd_same⟩
theorem r_ext (h : H l = some (.lst xs)) (h' : H p = some (.lst ys)) (c : xs.length + ys.length ≤ sizeLine) (k : ∀ H', But [l] H H' → H' l = some (.lst (xs ++ ys)) → Q (.ref l) H') : rIadd (.ref l) (.ref p) H Q :=
  .inr (.inr ⟨l, p, xs, ys, rfl, rfl, h, h', c, k _ (But.write h (fun z => z) (by simp)) upd_same⟩)
/-! ### built-ins -/
theorem r_lenL (h : SqL K H p xs) (k : Q (.int xs.length) H) : rLenA K [.ref p] H Q := ⟨_, _, rfl, .inl ⟨xs, h, rfl⟩, k⟩
theorem r_lenT (h : SqT K H p xs) (k : Q (.int xs.length) H) : rLenA K [.ref p] H Q := ⟨_, _, rfl, .inr ⟨xs, h, rfl⟩, k⟩
theorem r_lenS {z : Str} (c : z.length ≤ sizeLine) (k : Q (.int z.length) H) : rLenA K [.str z] H Q := ⟨_, _, rfl, ⟨c, rfl⟩, k⟩
theorem r_intI (k : Q (.int i) H) : (∃ j, [V.int i] = [.int j] ∧ Q (.int j) H) ∨ ∃ b, [V.int i] = [.bl b] ∧ Q (.int (if b then 1 else 0)) H := .inl ⟨i, rfl, k⟩
theorem r_slL {lo hi : Option Int} (h : SqL K H p xs) (k : ∀ l H', H l = none → Same H H' → H' l = some (.lst (cutV xs lo hi)) → Q (.ref l) H') : rSlAny K (.ref p) lo hi H Q :=
  .inl ⟨p, xs, rfl, h, fun l hl => k l _ hl (But.new (S := []) hl).same upd_same⟩
theorem r_tupleL (h : SqL K H p xs) (k : ∀ l H', H l = none → Same H H' → H' l = some (.tup xs) → Q (.ref l) H') : rTupA K [.ref p] H Q :=
  ⟨p, xs, rfl, .inl ⟨h, fun l hl => k l _ hl (But.new (S := []) hl).same upd_same⟩⟩
theorem r_listL (h : SqL K H p xs) (k : ∀ l H', H l = none → Same H H' → H' l = some (.lst xs) → Q (.ref l) H') : rListA K [.ref p] H Q :=
  ⟨p, xs, rfl, .inl h, fun l hl => k l _ hl (But.new (S := []) hl).same upd_same⟩
theorem r_repr {d : PyData} (h : Dp K H x d) (s : d.showable = true) (e : d.depth ≤ 60) (c : d.shown.length ≤ sizeLine) (k : Q (.str d.shown) H) : rRepr K [x] H Q := ⟨x, d, rfl, h, s, e, c, k⟩
end
end J

set_option Elab.async false
set_option linter.all false
set_option maxRecDepth 100000
set_option maxHeartbeats 4000000
namespace J
open PySem L2 PyProof.Rows
theorem listText_le (ts : List Str) : (listText ts).length ≤ piled ts + 2 := by
  have e1 : (listText ts).length = (textFrom 0 "[" ts).length + 1 := by
    show (textFrom 0 "[" ts ++ "]").length = _
    rw [strLen_append]
    rfl
  cases ts with
  | nil => rw [e1]; decide
  | cons t r =>
    have h := textFrom_length_pos r 1 (("[" : Str) ++ (if (0 : Nat) > 0 then ", " else "" : String) ++ t) (Nat.succ_pos 0)
    have e2 : ((("[" : Str) ++ (if (0 : Nat) > 0 then ", " else "" : String) ++ t)).length = 1 + t.length := by
      rw [strLen_append, strLen_append]; rfl
    have e3 : textFrom 0 "[" (t :: r) = textFrom 1 (("[" : Str) ++ (if (0 : Nat) > 0 then ", " else "" : String) ++ t) r := rfl
    rw [e1, e3, h, e2, piled_cons]
    omega
theorem tupleText_le (ts : List Str) : (tupleText ts).length ≤ piled ts + 3 := by
  have e3 : (((if ts.length == 1 then ",)" else ")" : String) : Str)).length ≤ 2 := by split <;> decide +kernel
  have e1 : ((("(" : String) : Str)).length = 1 := rfl
  unfold tupleText
  rw [strLen_append, strLen_append, e1]
  by_cases h : ts = []
  · subst h
    decide +kernel
  · have := join_length_add ts h
    omega
/-- bounds of data: for repr, for ==: its text at most n signs, at most k deep -/
structure Ok (n k : Nat) (d : PyData) : Prop where
  lay : d.canLay0 = true
  show_ : d.showable = true
  dep : d.depth ≤ k
  len : d.shown.length ≤ n
structure OkAll (n k : Nat) (ds : List PyData) : Prop where
  all : ∀ d ∈ ds, Ok n k d
theorem Ok.mono {n k n' k' : Nat} {d : PyData} (h : Ok n k d) (hn : n ≤ n') (hk : k ≤ k') : Ok n' k' d :=
  ⟨h.lay, h.show_, Nat.le_trans h.dep hk, Nat.le_trans h.len hn⟩
theorem Ok.shaped {n k : Nat} {d : PyData} (h : Ok n k d) (hk : k ≤ 60) : SeqAt.shaped d = true := by
  have := h.dep
  unfold SeqAt.shaped
  rw [h.lay, decide_eq_true (by omega)]
  rfl
theorem Ok.eqv {n k : Nat} {d : PyData} (h : Ok n k d) : PyData.eqv d d = true := SeqAt.eqv_refl d h.lay
theorem okNone : Ok 4 0 .none := ⟨rfl, rfl, Nat.le_refl _, by decide +kernel⟩
theorem okBool (b : Bool) : Ok 5 0 (.bool b) := ⟨rfl, rfl, Nat.le_refl _, by cases b <;> decide +kernel⟩
theorem okInt {i : Int} {m : Nat} (h : i.natAbs < 2 ^ m) (hm : m ≤ 1900) : Ok (m + 2) 0 (.int i) := by
  by_cases h0 : i.natAbs = 0
  · have e : i = 0 := by omega
    subst e
    refine ⟨rfl, by decide, Nat.le_refl _, ?_⟩
    have : ((PyData.int 0).shown).length = 1 := by decide +kernel
    omega
  · have h1 : i.natAbs.log2 < m := (Nat.log2_lt h0).mpr h
    refine ⟨rfl, ?_, Nat.le_refl _, ?_⟩
    · show decide (i.natAbs.log2 < 1920) = true
      exact decide_eq_true (by omega)
    · have h2 := int_text_length_le (a := i) (k := m) (by omega) h1
      have e : ((PyData.int i).shown).length = (toString i).length := by
        simp only [PyData.shown]
        exact PySem.ofString_length _
      omega
theorem okStr {x : Str} {n : Nat} (h : PyData.strOk x = true) (hl : (reprText x).length ≤ n) : Ok n 0 (.str x) := ⟨h, rfl, Nat.le_refl _, hl⟩
theorem all_lay {n k : Nat} : ∀ {ds : List PyData}, OkAll n k ds → PyData.canLayAll0 ds = true
  | [], _ => rfl
  | d :: ds, h => by
    show (d.canLay0 && PyData.canLayAll0 ds) = true
    rw [(h.all d List.mem_cons_self).lay, all_lay ⟨fun e he => h.all e (List.mem_cons_of_mem _ he)⟩]
    rfl
theorem all_show {n k : Nat} : ∀ {ds : List PyData}, OkAll n k ds → PyData.showableAll ds = true
  | [], _ => rfl
  | d :: ds, h => by
    show (d.showable && PyData.showableAll ds) = true
    rw [(h.all d List.mem_cons_self).show_, all_show ⟨fun e he => h.all e (List.mem_cons_of_mem _ he)⟩]
    rfl
theorem all_dep {n k : Nat} : ∀ {ds : List PyData}, OkAll n k ds → PyData.depthAll ds ≤ k
  | [], _ => Nat.zero_le _
  | d :: ds, h => Nat.max_le.mpr ⟨(h.all d List.mem_cons_self).dep, all_dep ⟨fun e he => h.all e (List.mem_cons_of_mem _ he)⟩⟩
theorem all_len {n k : Nat} : ∀ {ds : List PyData}, OkAll n k ds → piled (PyData.shownAll ds) ≤ ds.length * (n + 2)
  | [], _ => Nat.zero_le _
  | d :: ds, h => by
    have h1 := (h.all d List.mem_cons_self).len
    have h2 := all_len (n := n) (k := k) (ds := ds) ⟨fun e he => h.all e (List.mem_cons_of_mem _ he)⟩
    show piled (d.shown :: PyData.shownAll ds) ≤ _
    rw [piled_cons, List.length_cons, Nat.add_mul]
    omega
theorem okList {n k m : Nat} {ds : List PyData} (h : OkAll n k ds) (hm : ds.length ≤ m) : Ok (m * (n + 2) + 2) (k + 1) (.list ds) := by
  refine ⟨all_lay h, all_show h, Nat.succ_le_succ (all_dep h), ?_⟩
  have h1 := listText_le (PyData.shownAll ds)
  have h2 := all_len h
  have h3 : ds.length * (n + 2) ≤ m * (n + 2) := Nat.mul_le_mul_right _ hm
  simp only [PyData.shown]
  omega
theorem okTup {n k m : Nat} {ds : List PyData} (h : OkAll n k ds) (hm : ds.length ≤ m) : Ok (m * (n + 2) + 3) (k + 1) (.tuple ds) := by
  refine ⟨all_lay h, all_show h, Nat.succ_le_succ (all_dep h), ?_⟩
  have h1 := tupleText_le (PyData.shownAll ds)
  have h2 := all_len h
  have h3 : ds.length * (n + 2) ≤ m * (n + 2) := Nat.mul_le_mul_right _ hm
  simp only [PyData.shown]
  omega
theorem OkAll.nil {n k : Nat} : OkAll n k [] := ⟨fun _ h => nomatch h⟩
theorem OkAll.cons {n k : Nat} {d : PyData} {ds : List PyData} (h : Ok n k d) (t : OkAll n k ds) : OkAll n k (d :: ds) :=
  ⟨fun e he => (List.mem_cons.mp he).elim (fun q => q ▸ h) (t.all e)⟩
theorem OkAll.append {n k : Nat} {ds es : List PyData} (h : OkAll n k ds) (t : OkAll n k es) : OkAll n k (ds ++ es) :=
  ⟨fun e he => (List.mem_append.mp he).elim (h.all e) (t.all e)⟩
theorem OkAll.map {α : Type} {n k : Nat} {f : α → PyData} {xs : List α} (h : ∀ x ∈ xs, Ok n k (f x)) : OkAll n k (xs.map f) :=
  ⟨fun e he => by obtain ⟨x, hx, rfl⟩ := List.mem_map.mp he; exact h x hx⟩
section
variable {K : PySem.W.Frag} {S : List Addr} {H : Hp} {v : V} {ds : List PyData} {vs : List V} {d : PyData}
theorem Dn.tup_inv (h : Dn K S H v (.tuple ds)) : ∃ a xs, v = .ref a ∧ SqT K H a xs ∧ DnAll K S H xs ds := by
  cases h with
  | tup h1 h2 => exact ⟨_, _, rfl, h1, h2⟩
theorem Dn.lst_inv (h : Dn K S H v (.list ds)) : ∃ a xs, v = .ref a ∧ H a = some (.lst xs) ∧ a ∉ S ∧ DnAll K S H xs ds := by
  cases h with
  | lst h1 h2 h3 => exact ⟨_, _, rfl, h1, h2, h3⟩
theorem Dn.int_inv {i : Int} (h : Dn K S H v (.int i)) : v = .int i := by
  cases h; rfl
theorem Dn.str_inv {x : Str} (h : Dn K S H v (.str x)) : v = .str x := by
  cases h; rfl
theorem DnAll.nil_inv (h : DnAll K S H vs []) : vs = [] := by
  cases h; rfl
theorem DnAll.cons_inv (h : DnAll K S H vs (d :: ds)) : ∃ w ws, vs = w :: ws ∧ Dn K S H w d ∧ DnAll K S H ws ds := by
  cases h with
  | cons h1 h2 => exact ⟨_, _, rfl, h1, h2⟩
end
section
variable {K : PySem.W.Frag} {S T : List Addr} {H H' : Hp} {v : V} {ds : List PyData} {vs : List V} {d : PyData}
theorem dn_same (b : Same H H') (h : Dn K S H v d) : Dn K S H' v d := h.same b
theorem dn_but (b : But T H H') (h : Dn K S H v d) (hs : ∀ s ∈ T, s ∈ S) : Dn K S H' v d := h.but b hs
theorem da_same (b : Same H H') (h : DnAll K S H vs ds) : DnAll K S H' vs ds := h.same b
theorem da_but (b : But T H H') (h : DnAll K S H vs ds) (hs : ∀ s ∈ T, s ∈ S) : DnAll K S H' vs ds := h.but b hs
end
/-! ### data without lists -/
mutual
def noL : PyData → Bool
  | .list _ => false
  | .tuple xs => noLs xs
  | .dict _ => false
  | _ => true
def noLs : List PyData → Bool
  | [] => true
  | x :: xs => noL x && noLs xs
end
theorem Dn.any {K : PySem.W.Frag} {S T : List Addr} {H : Hp} {v : V} {d : PyData} (h : Dn K S H v d) (n : noL d = true) : Dn K T H v d := by
  refine Dn.rec (motive_1 := fun v d _ => noL d = true → Dn K T H v d) (motive_2 := fun vs ds _ => noLs ds = true → DnAll K T H vs ds) ?_ ?_ ?_ ?_ ?_ ?_ ?_ ?_ h n
  · exact fun _ => .non
  · exact fun b _ => .bl b
  · exact fun i _ => .int i
  · exact fun x _ => .str x
  · intro a xs ds _ _ _ _ q
    simp [noL] at q
  · intro a xs ds h1 _ ih q
    exact .tup h1 (ih (by simpa [noL] using q))
  · exact fun _ => .nil
  · intro v vs d ds _ _ h1 h2 q
    have q' : noL d = true ∧ noLs ds = true := by simpa [noLs] using q
    exact .cons (h1 q'.1) (h2 q'.2)
theorem DnAll.any {K : PySem.W.Frag} {S T : List Addr} {H : Hp} {vs : List V} {ds : List PyData} (h : DnAll K S H vs ds) (n : noLs ds = true) : DnAll K T H vs ds := by
  induction ds generalizing vs with
  | nil =>
    cases h
    exact .nil
  | cons d ds ih =>
    cases h with
    | cons h1 h2 =>
      have n' : noL d = true ∧ noLs ds = true := by simpa [noLs] using n
      exact .cons (h1.any n'.1) (ih h2 n'.2)
end J

set_option Elab.async false
set_option linter.all false
set_option maxRecDepth 100000
set_option maxHeartbeats 4000000
namespace J
open PySem PySem.Spec L2 L2.DX PyProof.Rows
/-! ### pairs of ints, sorted -/
def pairD (q : Int × Int) : PyData := .tuple [.int q.1, .int q.2]
/-- not after -/
abbrev Lex (x y : Int × Int) : Prop := SrtO.lexB y x = false
def PairAt (H : Hp) (x : V) (q : Int × Int) : Prop := ∃ t, x = .ref t ∧ H t = some (.tup [.int q.1, .int q.2])
def pairK (H : Hp) : V → Int × Int
  | .ref t => match H t with
    | some (.tup [.int i, .int j]) => (i, j)
    | _ => (0, 0)
  | _ => (0, 0)
theorem pairK_of {H : Hp} {x : V} {q : Int × Int} (h : PairAt H x q) : pairK H x = q := by
  obtain ⟨t, rfl, e⟩ := h
  show (match H t with | some (.tup [.int i, .int j]) => (i, j) | _ => ((0, 0) : Int × Int)) = q
  rw [e]
theorem pairK_map {H : Hp} : ∀ {xs : List V} {qs : List (Int × Int)}, Paired (PairAt H) xs qs → xs.map (pairK H) = qs
  | _, _, .nil => rfl
  | _, _, .cons h t => by rw [List.map_cons, pairK_of h, pairK_map t]
theorem pair_mem {H : Hp} : ∀ {xs : List V} {qs : List (Int × Int)}, Paired (PairAt H) xs qs → ∀ x ∈ xs, PairAt H x (pairK H x)
  | _, _, .cons h t, x, hx => by
    rcases List.mem_cons.mp hx with e | hx
    · subst e
      rw [pairK_of h]; exact h
    · exact pair_mem t x hx
theorem pairs_dn {K : PySem.W.Frag} {H H' : Hp} (s : Same H H') : ∀ {ys : List V}, (∀ y ∈ ys, PairAt H y (pairK H y)) → DnAll K [] H' ys ((ys.map (pairK H)).map pairD)
  | [], _ => .nil
  | y :: ys, h => by
    obtain ⟨t, e, ht⟩ := h y List.mem_cons_self
    refine .cons ?_ (pairs_dn s fun z hz => h z (List.mem_cons_of_mem _ hz))
    have e2 : Dn K [] H' (.ref t) (pairD (pairK H y)) := .tup (SqT.of (s _ _ ht)) (.cons (.int _) (.one (.int _)))
    rw [← e] at e2
    exact e2
/-- what sorted gives -/
def SortedTo (K : PySem.W.Frag) (Q : VK) (kvs : List (Int × Int)) (H : Hp) : Prop :=
  ∀ (l : Addr) (zs : List (Int × Int)) (ys : List V) (H' : Hp), H l = none → Same H H' → H' l = some (.lst ys) → DnAll K [] H' ys (zs.map pairD) → zs.Perm kvs → zs.Pairwise Lex → Q (.ref l) H'
theorem sorted_to {K : PySem.W.Frag} {Q : VK} {kvs : List (Int × Int)} {H H1 H2 : Hp} {xs ys : List V} {l : Addr} (k : SortedTo K Q kvs H) (s1 : Same H H1) (hx : Paired (PairAt H1) xs kvs)
    (h1 : SrtO.Srtd (ltP (pairK H1)) ys) (h2 : SrtO.Stb (ltP (pairK H1)) ys xs) (hl : H l = none) (s2 : Same H1 H2) (hl2 : H2 l = some (.lst ys)) : Q (.ref l) H2 := by
  refine k l (ys.map (pairK H1)) ys H2 hl (fun b o e => s2 b o (s1 b o e)) hl2 (pairs_dn s2 fun y hy => ?_) ?_ ?_
  · exact pair_mem hx y (h2.perm.mem_iff.mp hy)
  · rw [← pairK_map hx]
    exact h2.perm.map _
  · exact List.pairwise_map.mpr h1
section
variable {K : PySem.W.Frag} {H : Hp} {Q : VK} {p : Addr} {xs : List V} {kvs : List (Int × Int)}
theorem r_sortedP (h : SqL K H p xs) (hx : Paired (PairAt H) xs kvs) (k : SortedTo K Q kvs H) : rSortedPO K [.ref p] H Q :=
  ⟨p, xs, pairK H, rfl, h, pair_mem hx, fun ys l h1 h2 hl => sorted_to k (fun _ _ e => e) hx h1 h2 hl (But.new (S := []) hl).same upd_same⟩
end
/-! ### d.items(), d with int keys and int values -/
def intKV (kvs : List (Int × Int)) : List (L2.Key × V) := kvs.map fun q => (.inl q.1, .int q.2)
def rItemsK : V → List V → Hp → VK → Prop := fun x xs H Q => ∃ (a : Addr) (kvs : List (L2.Key × V)), x = .ref a ∧ xs = [] ∧ H a = some (.dK kvs) ∧ ∀ p, H p = none → Q (.ref p) (upd H p (itemsO p a))
section
variable {X : Cx}
theorem mt_itemsK : MtR X "dict.items" rItemsK := by
  intro pins s σ H x xs v us Q I rx rxs h
  obtain ⟨a, kvs, rfl, rfl, ha, q⟩ := h
  cases rx
  cases rxs
  obtain ⟨hz, hs0, vs, kv, hdo⟩ := I.hok a _ ha
  have hf : H s.heap.objs.size = none := I.hok.fresh (Nat.le_refl _)
  have e : EP X pins σ Q (.ref s.heap.objs.size) { s with heap := s.heap.push { cls := .type "dict_items", data := .fields #[.ref a] } } :=
    ⟨.ref s.heap.objs.size, upd H s.heap.objs.size (itemsO s.heap.objs.size a), I.laid (t' := s.toks) (fun b u e => Heap.get?_push_of_some _ e) (Nat.le_refl _) (itemsO_ok (Heap.get?_push_size _ rfl)), rfl, q _ hf⟩
  exact call_meetsIn F.slot_dict_items hdo.typeIs F.entry_dict_items (F.args_dict_items_1 _) (meets_dict_items (mixKind X.prog X.w) a hs0) ⟨⟨vs, hdo⟩, e⟩
/-- the invariant elsewhere -/
theorem inv_around {pins : List (Addr × Obj)} {σ : L2.St} {H : Hp} {s : Shared} (I : Inv X pins σ H s) (A' : Around) (h1 : A'.handled = X.A.handled) (h2 : A'.frames = X.A.frames) :
    Inv { X with A := A' } pins σ H s :=
  ⟨⟨I.ok.mod, I.ok.kind, I.ok.glob, I.ok.blt, I.ok.above, I.ok.inj, I.ok.has, I.ok.cab, fun c => h1.trans (I.ok.hd c), h2.trans I.ok.frames, I.ok.stk, I.ok.exf, I.ok.bs, I.ok.bsz, I.ok.noex, I.ok.exfs, I.ok.funs, I.ok.frf⟩,
   I.os, I.bare, I.base, I.loc, I.cell, I.free, I.freeC, I.pin, I.hok, I.len⟩
theorem inv_back {A' : Around} {pins : List (Addr × Obj)} {σ : L2.St} {H : Hp} {s : Shared} (I : Inv { X with A := A' } pins σ H s) (h1 : A'.handled = X.A.handled) (h2 : A'.frames = X.A.frames) :
    Inv X pins σ H s := inv_around (X := { X with A := A' }) I X.A h1.symm h2.symm
/-- the tuples and the list of them, tracked -/
theorem items_laid2 {pins : List (Addr × Obj)} {σ : L2.St} {H : Hp} {s : Shared} {h' : Heap} {tk S : Nat} {kvs : List (L2.Key × V)} {vs : List (L2.Key × Value)} {as : List Addr} (I : Inv X pins σ H s) (hz : kvs.length ≤ sizeLine) (kv : KV kvs vs)
    (hk : ∀ b o, s.heap.get? b = some o → h'.get? b = some o) (hS : h'.get? S = some { cls := .type "list", data := .seq (as.map Value.ref).toArray }) (hSl : s.heap.objs.size ≤ S) (hSn : S ∉ as) (hl : as.length = vs.length) (hG : PySem.W.KdxG (mixKind X.prog X.w) vs s.heap.objs.size h' as) :
    ∃ H' : Hp, Same H H' ∧ H S = none ∧ H' S = some (.lst (as.map V.ref)) ∧ Paired (fun (t : Addr) (q : L2.Key × V) => H' t = some (.tup [kV q.1, q.2])) as kvs ∧ Inv X pins σ H' { s with heap := h', toks := tk } := by
  have lk : kvs.length = vs.length := Paired.length kv
  have nd : as.Nodup := List.Pairwise.imp (fun {a b} (h : a < b) => Nat.ne_of_lt h) hG.rise
  have new : ∀ t ∈ as, H t = none := fun t ht => I.hok.fresh (Nat.le_of_lt (hG.above t ht))
  have newS : H S = none := I.hok.fresh hSl
  have atP := LiI.putT_at as kvs (upd H S (.lst (as.map V.ref))) (by omega) nd
  have off : ∀ b, b ∉ as → b ≠ S → LiI.putT (upd H S (.lst (as.map V.ref))) as kvs b = H b := fun b h1 h2 => by rw [LiI.putT_off as kvs _ h1, upd_ne h2]
  have low : ∀ b o, s.heap.get? b = some o → b ∉ as ∧ b ≠ S := fun b o e => ⟨fun z => absurd (Heap.lt_size e) (Nat.not_lt.mpr (Nat.le_of_lt (hG.above b z))), Nat.ne_of_lt (Nat.lt_of_lt_of_le (Heap.lt_size e) hSl)⟩
  have kp : ∀ b u, H b = some u → (LiI.putT (upd H S (.lst (as.map V.ref))) as kvs) b = some u := fun b u e => by
    rw [off b (fun z => by rw [new b z] at e; cases e) (fun z => by rw [z, newS] at e; cases e)]
    exact e
  have eS : LiI.putT (upd H S (.lst (as.map V.ref))) as kvs S = some (.lst (as.map V.ref)) := by rw [LiI.putT_off as kvs _ hSn, upd_same]
  refine ⟨LiI.putT (upd H S (.lst (as.map V.ref))) as kvs, kp, newS, eS, atP, ?_⟩
  refine I.call' (ch := []) rfl ⟨fun b o q _ _ _ => hk b o q, fun b o q _ _ _ => ⟨o.slots, hk b o q⟩, fun b o q n _ => ?_, fun b o q _ => ⟨o, hk b o q⟩, fun b xs q => kp b _ q, fun b o u q => kp b _ q, fun b ps q => ⟨#[], by rw [kp b _ q]; simp⟩⟩ (fun b u q => ?_) I.bare fun b z => by simp at z
  · obtain ⟨z1, z2⟩ := low b o q
    rw [off b z1 z2]
    exact n
  · by_cases hb : b ∈ as
    · obtain ⟨j, pk, e1, e2, e3⟩ := LiI.paired_ix atP hb
      rw [e3] at q
      cases q
      obtain ⟨key, k, x, f1, f2, f3⟩ := hG.pairs j b e1
      obtain ⟨qv, g1, g2, g3⟩ := LiI.paired_get kv e2
      rw [f1] at g1
      cases g1
      have rk : RelV (kV pk.1) key := by
        rw [g2]
        exact relV_key (show keyIs k key = true from f2)
      exact ⟨by show 2 ≤ sizeLine; decide, [key, x], .cons rk (.cons g3 .nil), ⟨_, f3, rfl, _, rfl⟩⟩
    · by_cases hb2 : b = S
      · rw [hb2] at q ⊢
        rw [eS] at q
        cases q
        exact ⟨by rw [List.length_map]; omega, as.map Value.ref, 0, LiI.vals_refs as, hS⟩
      · rw [off b hb hb2] at q
        exact (I.hok b u q).stay (fun d v _ y => hk d v y) (fun d y => kp d _ y) fun d xs y => kp d _ y
theorem paired_pair {H : Hp} : ∀ {ts : List Addr} {kvs : List (Int × Int)}, Paired (fun (t : Addr) (q : L2.Key × V) => H t = some (.tup [kV q.1, q.2])) ts (intKV kvs) → Paired (PairAt H) (ts.map V.ref) kvs
  | _, [], .nil => .nil
  | _, _ :: _, .cons h t => .cons ⟨_, rfl, h⟩ (paired_pair t)
/-- sorted(d.items()) -/
def rSortIK (K : PySem.W.Frag) : List V → Hp → VK → Prop := fun vs H Q => ∃ (p a : Addr) (kvs : List (Int × Int)), vs = [.ref p] ∧ H p = some (itemsO p a) ∧ H a = some (.dK (intKV kvs)) ∧ SortedTo K Q kvs H
theorem cr_sortIK {K : PySem.W.Frag} (hc : X.calm = true) (e : X.K = K := by rfl) : CallR X (.builtin "sorted") (rSortIK K) := by
  subst e
  intro pins s σ H xs us Q I r h
  obtain ⟨p, a, kvs, rfl, hp, ha, k⟩ := h
  obtain rfl := Vals.ref1 r
  have view : s.heap.IsItemsView p a := (show ObjOk X.prog X.w H s.heap p (itemsO p a) from I.hok p _ hp).1
  obtain ⟨hz, hs0, vs, kv, hdo⟩ := I.hok a _ ha
  have lk : (intKV kvs).length = vs.length := Paired.length kv
  obtain ⟨o, es, ep, ho, hx, hdat, hko, hps, hnd⟩ := hdo
  have les : es.size = vs.length := by rw [← Array.length_toList]; exact hps.length
  have hh : X.A.handled = none := I.ok.hd hc
  refine DT.sortedI (es := es) (ep := ep) hh view ⟨o, ho, hx, hdat⟩ (by omega) fun h' tk as hk hlt hl hM => ?_
  have hG : PySem.W.KdxG (mixKind X.prog X.w) vs s.heap.objs.size h' as := by
    refine ⟨hM.rise, hM.above, fun j b hj => ?_⟩
    obtain ⟨en, he, hg⟩ := hM.pairs j b hj
    rw [← Array.getElem?_toList] at he
    have hjl : j < vs.length := by
      have := (List.getElem?_eq_some_iff.mp hj).1
      omega
    have hv : vs[j]? = some ((vs[j]).1, (vs[j]).2) := List.getElem?_eq_getElem hjl
    obtain ⟨q1, q2⟩ := hps.get? he hv
    exact ⟨en.key, (vs[j]).1, (vs[j]).2, hv, q1, by rw [hg, q2]⟩
  have hpush : ∀ b o, h'.get? b = some o → (h'.push { cls := .type "list", data := .seq (as.map Value.ref).toArray }).get? b = some o := fun b o e => Heap.get?_push_of_some _ e
  obtain ⟨H', k1, k2, k4, k5, J⟩ := items_laid2 (tk := tk) (S := h'.objs.size) I hz kv (fun b o e => hpush _ _ (hk b o e)) (Heap.get?_push_size _ rfl) (Nat.le_of_lt hlt)
    (fun z => Nat.lt_irrefl _ (hG.there z)) (by omega) ⟨hG.rise, hG.above, fun j a e => by
      obtain ⟨key, q, x, f1, f2, f3⟩ := hG.pairs j a e
      exact ⟨key, q, x, f1, f2, hpush _ _ f3⟩⟩
  have pp := paired_pair k5
  have st := mt_sortPO (X := { X with A := X.A.in1 }) pins _ σ H' (.ref h'.objs.size) [] (.ref h'.objs.size) [] (fun _ H2 => Q (.ref h'.objs.size) H2) (inv_around J _ rfl rfl) rfl .nil
    ⟨_, _, pairK H', rfl, rfl, k4, pair_mem pp, fun zs h1 h2 => ?_⟩
  · refine wpAny_mono st (fun u s' x => ?_) fun _ _ e => e
    obtain ⟨v, H2, J2, rv, q2⟩ := x
    exact ⟨.ref h'.objs.size, H2, inv_back J2 rfl rfl, rfl, q2⟩
  · refine k h'.objs.size (zs.map (pairK H')) zs _ k2 (fun b o e => ?_) upd_same ?_ ?_ (List.pairwise_map.mpr h1)
    · rw [upd_ne (ne_of_none e k2)]
      exact k1 b o e
    · have hd : ∀ y ∈ zs, PairAt (upd H' h'.objs.size (.lst zs)) y (pairK (upd H' h'.objs.size (.lst zs)) y) ∧ pairK (upd H' h'.objs.size (.lst zs)) y = pairK H' y := fun y hy => by
        obtain ⟨t, e1, e2⟩ := pair_mem pp y (h2.perm.mem_iff.mp hy)
        have nt : t ≠ h'.objs.size := fun z => by
          rw [z, k4] at e2
          cases e2
        have e3 : PairAt (upd H' h'.objs.size (.lst zs)) y (pairK H' y) := ⟨t, e1, by rw [upd_ne nt]; exact e2⟩
        have e4 := pairK_of e3
        exact ⟨by rw [e4]; exact e3, e4⟩
      have e5 : zs.map (pairK H') = zs.map (pairK (upd H' h'.objs.size (.lst zs))) := List.map_congr_left fun y hy => (hd y hy).2.symm
      rw [e5]
      exact pairs_dn (fun _ _ e => e) fun y hy => (hd y hy).1
    · rw [← pairK_map pp]
      exact h2.perm.map _
end
section
variable {K : PySem.W.Frag} {H : Hp} {Q : VK} {p : Addr} {kvs : List (L2.Key × V)} {i : Int} {v : V}
theorem r_items {σ : L2.St} {to : TE} {a : Addr} (h : H a = some (.dK kvs)) (k : ∀ p H', H p = none → Same H H' → H' p = some (itemsO p a) → Q (.ref p) H') : tyV K "dict" (.ref a) H ∧ rItemsK (.ref a) [] H Q :=
  ⟨.inr (.inr (.inl ⟨rfl, .inl ⟨_, h⟩⟩)), a, kvs, rfl, rfl, h, fun p hp => k p _ hp (But.new (S := []) hp).same upd_same⟩
/-! ### dicts with int keys -/
theorem r_dnew {σ : L2.St} (k : ∀ p H', H p = none → Same H H' → H' p = some (.dK []) → Q (.ref p) H') : tDNewK σ H Q := fun p hp => k p _ hp (But.new (S := []) hp).same upd_same
theorem r_dget2 {σ : L2.St} {td ty tx : TE} (k : td σ H fun x H1 => ∃ a, x = .ref a ∧ IsD H1 a ∧ ty σ H1 fun y H2 => tx σ H2 fun z H3 => ∃ o, DGet H3 a y o ∧ Q (o.getD z) H3) : tDGet2 td ty tx σ H Q := k
theorem r_dput {σ : L2.St} {td ty tv : TE} {D : Ends} (k : tv σ H fun v H1 => td σ H1 fun x H2 => ty σ H2 fun y H3 => ∃ a H4, x = .ref a ∧ DPut H3 a y v H4 ∧ D.nx σ H4) : sDPut td ty tv D σ H := k
theorem r_isD {a : Addr} {B : Addr → Prop} (h : H a = some (.dK kvs)) (k : B a) : ∃ b, V.ref a = .ref b ∧ IsD H b ∧ B b := ⟨a, rfl, .inl ⟨_, .inl h⟩, k⟩
end
def rMax2 : List V → Hp → VK → Prop := fun xs H Q => ∃ i j, xs = [.int i, .int j] ∧ Q (.int (if j > i then j else i)) H
theorem call_max2A {X : Cx} (hc : X.calm = true) : CallR X (.builtin "max") rMax2 := call_max2 hc
theorem r_max2 {H : Hp} {Q : VK} {i j : Int} (k : Q (.int (max i j)) H) : rMax2 [.int i, .int j] H Q := by
  refine ⟨i, j, rfl, ?_⟩
  have e : (if j > i then j else i) = max i j := by split <;> omega
  rw [e]; exact k
def rInt1 : List V → Hp → VK → Prop := fun xs H Q => (∃ j, xs = [.int j] ∧ Q (.int j) H) ∨ ∃ b, xs = [.bl b] ∧ Q (.int (if b then 1 else 0)) H
theorem r_int1 {H : Hp} {Q : VK} {i : Int} (k : Q (.int i) H) : rInt1 [.int i] H Q := .inl ⟨i, rfl, k⟩
theorem r_int1b {H : Hp} {Q : VK} {b : Bool} (k : Q (.int (if b then 1 else 0)) H) : rInt1 [.bl b] H Q := .inr ⟨b, rfl, k⟩
/-! ### int to int -/
def getI (m : List (Int × Int)) (k : Int) : Option Int := (m.find? fun q => decide (q.1 = k)).map (·.2)
def putI (m : List (Int × Int)) (k v : Int) : List (Int × Int) :=
  if (m.any fun q => decide (q.1 = k)) = true then m.map (fun q => if q.1 = k then (q.1, v) else q) else m ++ [(k, v)]
theorem valV_intKV {m : List (Int × Int)} {k : Int} : valV (intKV m) (.inl k) = (getI m k).map V.int := by
  unfold getI
  induction m with
  | nil => rfl
  | cons q m ih =>
    by_cases h : q.1 = k
    · rw [List.find?_cons_of_pos (by simpa using h)]
      exact valV_pos (p := ((Sum.inl q.1 : L2.Key), V.int q.2)) (by rw [h])
    · rw [List.find?_cons_of_neg (by simpa using h), ← ih]
      exact valV_neg (p := ((Sum.inl q.1 : L2.Key), V.int q.2)) (fun z => h (Sum.inl.inj z))
theorem getD_intKV {m : List (Int × Int)} {k j : Int} : (valV (intKV m) (.inl k)).getD (.int j) = .int ((getI m k).getD j) := by
  rw [valV_intKV]
  cases getI m k <;> rfl
theorem any_intKV {m : List (Int × Int)} {k : Int} : ((intKV m).any fun kv => decide (kv.1 = (.inl k : L2.Key))) = m.any fun q => decide (q.1 = k) := by
  unfold intKV
  rw [List.any_map]
  refine congrArg m.any (funext fun q => decide_eq_decide.mpr ⟨fun z => Sum.inl.inj z, fun z => congrArg Sum.inl z⟩)
theorem putK_intKV {m : List (Int × Int)} {k v : Int} : putK (intKV m) (.inl k) (.int v) = intKV (putI m k v) := by
  unfold putK putI
  rw [any_intKV]
  split
  · unfold intKV
    rw [List.map_map, List.map_map]
    refine List.map_congr_left fun q _ => ?_
    by_cases h : q.1 = k
    · have h2 : (Sum.inl q.1 : L2.Key) = .inl k := congrArg _ h
      simp only [Function.comp, if_pos h, if_pos h2]
    · have h2 : ¬ (Sum.inl q.1 : L2.Key) = .inl k := fun z => h (Sum.inl.inj z)
      simp only [Function.comp, if_neg h, if_neg h2]
  · unfold intKV
    rw [List.map_append]; rfl
theorem putI_length (m : List (Int × Int)) (k v : Int) : (putI m k v).length ≤ m.length + 1 := by
  unfold putI
  split
  · rw [List.length_map]; omega
  · rw [List.length_append]; exact Nat.le_refl _
section
variable {K : PySem.W.Frag} {H : Hp} {Q : VK} {a : Addr} {m : List (Int × Int)} {i j : Int}
theorem r_dgetI (h : H a = some (.dK (intKV m))) (k : Q (.int ((getI m i).getD j)) H) : ∃ o, DGet H a (.int i) o ∧ Q (o.getD (.int j)) H := by
  refine ⟨_, DGet.k (k := .inl i) h, ?_⟩
  rw [valV_intKV]
  cases hg : getI m i <;> rw [hg] at k <;> exact k
theorem r_dputI {R : Hp → Prop} (h : H a = some (.dK (intKV m))) (c : m.length < sizeLine) (k : ∀ H', But [a] H H' → H' a = some (.dK (intKV (putI m i j))) → R H') :
    ∃ b H4, V.ref a = .ref b ∧ DPut H b (.int i) (.int j) H4 ∧ R H4 := by
  refine ⟨a, _, rfl, DPut.k (k := .inl i) h (by unfold intKV; rw [List.length_map]; exact c), ?_⟩
  rw [putK_intKV]
  exact k _ (But.write h (fun z => z) (by simp)) upd_same
theorem getI_put {m : List (Int × Int)} {k v h : Int} : getI (putI m k v) h = if h = k then some v else getI m h := by
  unfold putI getI
  by_cases ha : (m.any fun q => decide (q.1 = k)) = true
  · rw [if_pos ha]
    induction m with
    | nil => simp at ha
    | cons q m ih =>
      rw [List.map_cons]
      by_cases hq : q.1 = k
      · rw [if_pos hq]
        by_cases hh : h = k
        · subst hh
          rw [if_pos rfl, List.find?_cons_of_pos (by simpa using hq)]; rfl
        · rw [if_neg hh]
          have hne : ¬ q.1 = h := fun z => hh (z ▸ hq)
          rw [List.find?_cons_of_neg (by simpa using hne), List.find?_cons_of_neg (by simpa using hne)]
          by_cases hm : (m.any fun q => decide (q.1 = k)) = true
          · rw [ih hm, if_neg hh]
          · have : m.map (fun q => if q.1 = k then (q.1, v) else q) = m := by
              conv => rhs; rw [← List.map_id m]
              refine List.map_congr_left fun z hz => ?_
              rw [if_neg fun e => hm (List.any_eq_true.mpr ⟨z, hz, decide_eq_true e⟩)]; rfl
            rw [this]
      · rw [if_neg hq]
        have hm : (m.any fun q => decide (q.1 = k)) = true := by
          rw [List.any_cons, decide_eq_false hq, Bool.false_or] at ha; exact ha
        by_cases hqh : q.1 = h
        · rw [List.find?_cons_of_pos (by simpa using hqh), List.find?_cons_of_pos (by simpa using hqh), if_neg fun z => hq (hqh.trans z)]
        · rw [List.find?_cons_of_neg (by simpa using hqh), List.find?_cons_of_neg (by simpa using hqh), ih hm]
  · rw [if_neg ha, List.find?_append]
    by_cases hh : h = k
    · subst hh
      rw [if_pos rfl]
      have : m.find? (fun q => decide (q.1 = h)) = none := List.find?_eq_none.mpr fun z hz e => ha (List.any_eq_true.mpr ⟨z, hz, e⟩)
      rw [this]
      simp
    · rw [if_neg hh]
      have : [(k, v)].find? (fun q => decide (q.1 = h)) = none := by simp [Ne.symm hh]
      rw [this, Option.or_none]
theorem putI_keys {m : List (Int × Int)} {k v : Int} (hm : (m.map (·.1)).Nodup) : ((putI m k v).map (·.1)).Nodup := by
  unfold putI
  split
  · rw [List.map_map]
    have : ((fun q : Int × Int => q.1) ∘ fun q => if q.1 = k then (q.1, v) else q) = fun q => q.1 := funext fun q => by
      by_cases h : q.1 = k <;> simp [h]
    rw [this]; exact hm
  · rename_i h
    rw [List.map_append]
    refine List.nodup_append.mpr ⟨hm, by simp, ?_⟩
    intro x hx y hy e
    obtain ⟨q, hq, rfl⟩ := List.mem_map.mp hx
    simp at hy
    exact h (List.any_eq_true.mpr ⟨q, hq, decide_eq_true (e.trans hy)⟩)
theorem lex_uniq {xs ys : List (Int × Int)} (h : xs.Perm ys) (h1 : xs.Pairwise Lex) (h2 : ys.Pairwise Lex) : xs = ys := by
  refine h.eq_of_pairwise (le := Lex) (fun a b _ _ q1 q2 => ?_) h1 h2
  have a1 := SrtO.lexB_no.mp q1
  have a2 := SrtO.lexB_no.mp q2
  exact Prod.ext (by omega) (by omega)
end
/-! ### slices -/
section
variable {σ : L2.St} {H : Hp} {K : PySem.W.Frag} {Q : VK} {te : TE} {tl th : TO} {xs : List V}
theorem r_sl {r : V → Option Int → Option Int → Hp → VK → Prop} (k : te σ H fun x H1 => tl σ H1 fun l H2 => th σ H2 fun u H3 => r x l u H3 Q) : tSl r te tl th σ H Q := k
theorem r_noPart {R : Option Int → Hp → Prop} (k : R none H) : tNoPart σ H R := k
theorem r_part {R : Option Int → Hp → Prop} (k : te σ H fun x H1 => ∃ i, x = .int i ∧ R (some i) H1) : tPart te σ H R := k
theorem r_exi {i : Int} {R : Int → Prop} (k : R i) : ∃ j, V.int i = .int j ∧ R j := ⟨i, rfl, k⟩
theorem cut_from {n : Nat} : cutV xs (some (n : Int)) none = xs.drop n := by
  unfold cutV
  rw [HT.sIx_nat, HT.sIx_none]
  by_cases h : n ≤ xs.length
  · rw [Nat.min_eq_left h]
    exact List.take_of_length_le (by rw [List.length_drop]; exact Nat.le_refl _)
  · rw [Nat.min_eq_right (by omega), Nat.sub_self, List.take_zero, List.drop_eq_nil_of_le (by omega)]
theorem cut_fromTo {n m : Nat} : cutV xs (some (n : Int)) (some (m : Int)) = (xs.drop n).take (m - n) := by
  unfold cutV
  rw [HT.sIx_nat, HT.sIx_nat]
  by_cases h : n ≤ xs.length
  · rw [Nat.min_eq_left h]
    by_cases h2 : m ≤ xs.length
    · rw [Nat.min_eq_left h2]
    · rw [Nat.min_eq_right (by omega), List.take_of_length_le (by rw [List.length_drop]; exact Nat.le_refl _), List.take_of_length_le (by rw [List.length_drop]; omega)]
  · rw [Nat.min_eq_right (a := n) (by omega), List.drop_eq_nil_of_le (Nat.le_refl _), List.drop_eq_nil_of_le (by omega), List.take_nil, List.take_nil]
theorem cut_to {m : Nat} : cutV xs none (some (m : Int)) = xs.take m := by
  unfold cutV
  rw [HT.sIx_none, HT.sIx_nat, List.drop_zero, Nat.sub_zero]
  by_cases h : m ≤ xs.length
  · rw [Nat.min_eq_left h]
  · rw [Nat.min_eq_right (by omega), List.take_of_length_le (Nat.le_refl _), List.take_of_length_le (by omega)]
end
/-! ### lists of ints -/
theorem layInts : ∀ ns : List Int, PyData.canLayAll0 (ns.map PyData.int) = true
  | [] => rfl
  | n :: ns => by
    show ((PyData.int n).canLay0 && PyData.canLayAll0 (ns.map PyData.int)) = true
    rw [layInts ns]; rfl
theorem depInts : ∀ ns : List Int, PyData.depthAll (ns.map PyData.int) = 0
  | [] => rfl
  | n :: ns => by
    show max (PyData.int n).depth (PyData.depthAll (ns.map PyData.int)) = 0
    rw [depInts ns]; rfl
theorem shapedInts (ns : List Int) : SeqAt.shaped (.list (ns.map PyData.int)) = true := by
  unfold SeqAt.shaped
  have h1 : (PyData.list (ns.map PyData.int)).canLay0 = true := layInts ns
  have h2 : (PyData.list (ns.map PyData.int)).depth ≤ 1 := by
    show PyData.depthAll (ns.map PyData.int) + 1 ≤ 1
    rw [depInts]; exact Nat.le_refl _
  rw [h1, decide_eq_true (by omega)]; rfl
theorem eqvInts : ∀ (ns ms : List Int), PyData.eqvAll (ns.map PyData.int) (ms.map PyData.int) = decide (ns = ms)
  | [], [] => rfl
  | [], _ :: _ => rfl
  | _ :: _, [] => rfl
  | n :: ns, m :: ms => by
    show (PyData.eqv (.int n) (.int m) && PyData.eqvAll (ns.map PyData.int) (ms.map PyData.int)) = _
    rw [eqvInts ns ms]
    have : PyData.eqv (.int n) (.int m) = decide (n = m) := by
      by_cases h : n = m
      · subst h; simp [PyData.eqv]
      · simp [PyData.eqv, h]
    rw [this, ← Bool.decide_and]
    exact decide_eq_decide.mpr (by simp)
theorem eqvListInts (ns ms : List Int) : PyData.eqv (.list (ns.map PyData.int)) (.list (ms.map PyData.int)) = decide (ns = ms) := by
  rw [← eqvInts]; rfl
theorem r_eqInts {K : PySem.W.Frag} {H : Hp} {Q : VK} {p q : Addr} {ns ms : List Int} (h1 : H p = some (.lst (ns.map V.int))) (h2 : H q = some (.lst (ms.map V.int))) (k : Q (.bl (decide (ns = ms))) H) : rEqA K (.ref p) (.ref q) H Q := by
  refine r_eqD (d := .list (ns.map PyData.int)) (e := .list (ms.map PyData.int)) ?_ ?_ (shapedInts ns) (shapedInts ms) (by rw [eqvListInts]; exact k)
  · exact (Dn.lst (S := []) h1 List.not_mem_nil DnAll.ints).dp
  · exact (Dn.lst (S := []) h2 List.not_mem_nil DnAll.ints).dp
theorem r_listItems {σ : L2.St} {H : Hp} {te : TE} {Q : VK} (k : te σ H fun x H1 => LiI.rItemsL x H1 Q) : LiI.tListItems te σ H Q := k
theorem r_itemsL {H : Hp} {Q : VK} {d : Addr} {kvs : List (Int × Int)} (h : H d = some (.dK (intKV kvs)))
    (k : ∀ p xs H', H p = none → Same H H' → H' p = some (.lst xs) → Paired (PairAt H') xs kvs → Q (.ref p) H') : LiI.rItemsL (.ref d) H Q :=
  ⟨d, _, rfl, h, fun H' p ts s hp _ _ hl hh => k p _ H' hp s hl (paired_pair hh)⟩
theorem r_par {i j : Nat} {ta : TA} {D : Ends} {σ : L2.St} {H : Hp} (k : ta σ H fun vs H1 => ∃ v w, vs = [v, w] ∧ D.nx ((σ.set i (some v)).set j (some w)) H1) : tPar i j ta D σ H := k
theorem r_ex2 {v w : V} {R : V → V → Prop} (k : R v w) : ∃ v' w', [v, w] = [v', w'] ∧ R v' w' := ⟨v, w, rfl, k⟩
end J

set_option Elab.async false
set_option linter.all false
set_option maxRecDepth 100000
set_option maxHeartbeats 4000000
namespace J
open PySem PySem.Spec L2 PyProof.Rows
/-! ### statements, expressions that no run reaches -/
theorem ps_dead {X : Cx} {st : Stmt} : PS X st (fun _ _ _ => False) := ⟨fun _ _ _ _ _ _ h => h.elim⟩
theorem pe_dead {X : Cx} {e : Expr} : PE X e (fun _ _ _ => False) := ⟨fun _ _ _ _ _ _ h => h.elim⟩
/-! ### types of data -/
def tyD : PyData → String
  | .none => "NoneType"
  | .bool _ => "bool"
  | .int _ => "int"
  | .str _ => "str"
  | .list _ => "list"
  | .tuple _ => "tuple"
  | .dict _ => "dict"
def isIntD : PyData → Bool
  | .int _ => true
  | .bool _ => true
  | _ => false
def isBoolD : PyData → Bool
  | .bool _ => true
  | _ => false
def isStrD : PyData → Bool
  | .str _ => true
  | _ => false
def isTupD : PyData → Bool
  | .tuple _ => true
  | _ => false
def isListD : PyData → Bool
  | .list _ => true
  | _ => false
theorem kit_int (d : PyData) : kitB (tyD d) "int" = some (isIntD d) := by cases d <;> (simp only [tyD, isIntD, isBoolD, isStrD, isTupD, isListD]; decide +kernel)
theorem kit_bool (d : PyData) : kitB (tyD d) "bool" = some (isBoolD d) := by cases d <;> (simp only [tyD, isIntD, isBoolD, isStrD, isTupD, isListD]; decide +kernel)
theorem kit_str (d : PyData) : kitB (tyD d) "str" = some (isStrD d) := by cases d <;> (simp only [tyD, isIntD, isBoolD, isStrD, isTupD, isListD]; decide +kernel)
theorem kit_tup (d : PyData) : kitB (tyD d) "tuple" = some (isTupD d) := by cases d <;> (simp only [tyD, isIntD, isBoolD, isStrD, isTupD, isListD]; decide +kernel)
theorem kit_list (d : PyData) : kitB (tyD d) "list" = some (isListD d) := by cases d <;> (simp only [tyD, isIntD, isBoolD, isStrD, isTupD, isListD]; decide +kernel)
theorem tyx_of {K : PySem.W.Frag} {S : List Addr} {H : Hp} {v : V} {d : PyData} (h : Dn K S H v d) : TyX K H v (.type (tyD d)) := by
  cases h with
  | non => exact .base .non
  | bl b => exact .base (.bl b)
  | int i => exact .base (.int i)
  | str x => exact .base (.str x)
  | lst h1 _ _ => exact .base (.lst h1)
  | tup h1 _ =>
    rcases h1 with (h1 | ⟨o, h1⟩) | h1
    · exact .base (.tup h1)
    · exact .fTuple h1
    · obtain ⟨o, _, _, hk, hc, _⟩ := h1
      exact .kTuple hk hc
section
variable {X : Cx} {K : PySem.W.Frag} {CX : CXT} {k j n : Nat} {C : Addr} {x m T : Str} {sp : Sp} {e o : Expr} {es : List Expr} {ta te : TE} {t tk : TA} {p pos apos : Pos} {kws : List Keyword} {ks : List Str}
theorem pe_tyN {T : String} (hg : Gl X x) (hm : X.mg x = none) (hv : bootBuiltins x = some (.type T)) (hn : x ≠ "__name__" := by decide) (hd : (x == ("__debug__" : Str)) = false := by decide) : PE X (.Name x pos) (tC (.ty T)) :=
  pe_bltn hg hm hv rfl hn hd
theorem pe_gint {i : Int} {tk : Tok} (hg : Gl X x) (hm : X.mg x = some (.int i tk)) (hd : (x == ("__debug__" : Str)) = false := by decide) : PE X (.Name x pos) (tC (.int i)) := pe_glob hg hm ⟨_, rfl⟩ hd
theorem pe_gintE {i : Int} (hg : Gl X x) (hm : ∃ tk, X.mg x = some (.int i tk)) (hd : (x == ("__debug__" : Str)) = false := by decide) : PE X (.Name x pos) (tC (.int i)) := by
  obtain ⟨tk, hm⟩ := hm
  exact pe_gint hg hm hd
theorem call_isiA (e : X.K = K := by rfl) : CallR X (.builtin "isinstance") (rIsi K) := by subst e; exact call_isi
/-- a def called with keywords -/
structure ClK (P : Program) (w : World) (K : PySem.W.Frag) (mg : Str → Option Value) (base : Heap) (CX : CXT) (k : Nat) (x : Str) (n : Nat) (ks : List Str) (sp : Sp) : Prop where
  ex : ∃ f fd ps g gV, FnOk P w K mg base CX k f fd ps sp ∧ mg x = some (.ref f) ∧ PySem.W.keepIn K (.ref f) = true ∧ KBn K fd ps n ks g gV ∧ gV = fun vs zs => vs ++ zs
def tKw (n m : Nat) (sp : Sp) (t tk : TA) : TE := fun σ H Q => t σ H fun vs H1 => tk σ H1 fun zs H2 => vs.length = n ∧ zs.length = m ∧ sp (vs ++ zs) H2 Q E0
theorem pe_clK (c : ClK X.prog X.w X.K X.mg X.base CX0 k x n ks sp) (hr : Room j X.A) (hk : k ≤ j) (ha : PA X (e :: es) t) (hkw : PK X kws tk) (hg : Gl X x := by rfl)
    (hall : (backToKw pos (keywordEach kws X.env)).all (·.1.isSome) = true := by rfl) (hks : (backToKw pos (keywordEach kws X.env)).filterMap (·.1) = ks := by rfl)
    (hdb : (x == ("__debug__" : Str)) = false := by decide) (he : starEach (e :: es) X.env = (false, eval e X.env) :: starEach es X.env := by rfl)
    (hpl : ((backTo pos (starEach (e :: es) X.env)).any (·.1) || (backToKw pos (keywordEach kws X.env)).any (·.1.isNone)) = false := by rfl) :
    PE X (.Call (.Name x p) (e :: es) kws pos) (tKw n ks.length sp t tk) := by
  obtain ⟨f, fd, ps, g, gV, F, hm, kp, hb, eg⟩ := c.ex
  have h := pe_callN F (hr.mono hk) hg hm kp hb pass0 ha hkw hall hks hdb he hpl (p := p)
  rw [eg] at h
  exact h
theorem pe_cld {dvs : List V} (c : C8.Cal X.prog X.w X.K X.mg X.base k x sp dvs) (hr : Room j X.A) (hk : k ≤ j) (ha : PA X (e :: es) t) (hg : Gl X x := by rfl)
    (hdb : (x == ("__debug__" : Str)) = false := by decide) (he : starEach (e :: es) X.env = (false, eval e X.env) :: starEach es X.env := by rfl) (hpl : (backTo pos (starEach es X.env)).any (·.1) = false := by rfl) :
    PE X (.Call (.Name x p) (e :: es) [] pos) (tCall sp dvs E0 t) := C8.pe_c c hr hk hg ha hdb he hpl
theorem ps_fldA {value : Expr} {f : Str} {tv : TE} {pos' : Pos} (ha : PE X o ta) (hv : PE X value tv) (hs : swapsWith value (some (.Attribute o f pos')) pos.line X.env = pure false := by rfl) (e : X.K = K := by rfl) :
    PS X (.Assign [.Attribute o f pos'] value pos) (sFld K ta tv f) := by subst e; exact ps_fld ha hv hs
theorem ps_fldaugA {value : Expr} {f : Str} {tv : TE} {op : Operator} {tpos : Pos} {rd : V → V → Hp → VK → Prop} (ha : PE X o ta) (hv : PE X value tv) (hop : InOp X op rd) (e : X.K = K := by rfl) :
    PS X (.AugAssign (.Attribute o f tpos) op value pos) (sFldAug K ta tv rd f) := by subst e; exact ps_fldaug ha hv hop
theorem in_ofR {op : Operator} {r : R2} (h : OpR X (inplaceOp op) r) : InOp X op r := h
theorem pi_zipB {e2 : Expr} {elts : List Expr} {kk : Nat} {tpos : Pos} {tz : TA} (hg : Gl X "zip") (hm : X.mg "zip" = none) (ha : PA X [e, e2] tz)
    (hs : starEach [e, e2] X.env = (false, eval e X.env) :: starEach [e2] X.env := by rfl) (hpl : (backTo pos (starEach [e2] X.env)).any (·.1) = false := by rfl) (ek : X.K = K := by rfl) :
    PI X (.Tuple elts kk tpos) (.Call (.Name "zip" p) [e, e2] [] pos) (RZ.iZipA K tz) := by subst ek; exact RZ.pi_zipA hg hm ha hs hpl
end
section
variable {σ : L2.St} {H : Hp} {K : PySem.W.Frag} {Q : VK} {S : List Addr} {a C dx : Addr} {fs : List (Str × V)} {f m : Str} {v x : V} {d : PyData} {ta te tv : TE} {t tk : TA} {sp : Sp} {dvs : List V} {E : XK} {D : Ends}
/-! ### isinstance -/
theorem r_isi {T : String} {b : Bool} (h : Dn K S H x d) (e : kitB (tyD d) T = some b) (k : Q (.bl b) H) : rIsi K [x, .ty T] H Q :=
  ⟨x, _, _, _, b, rfl, .ty T, tyx_of h, kit_ty e, k⟩
theorem r_isInt (h : Dn K S H x d) (k : Q (.bl (isIntD d)) H) : rIsi K [x, .ty "int"] H Q := r_isi h (kit_int d) k
theorem r_isBool (h : Dn K S H x d) (k : Q (.bl (isBoolD d)) H) : rIsi K [x, .ty "bool"] H Q := r_isi h (kit_bool d) k
theorem r_isStr (h : Dn K S H x d) (k : Q (.bl (isStrD d)) H) : rIsi K [x, .ty "str"] H Q := r_isi h (kit_str d) k
theorem r_isTup (h : Dn K S H x d) (k : Q (.bl (isTupD d)) H) : rIsi K [x, .ty "tuple"] H Q := r_isi h (kit_tup d) k
theorem r_isList (h : Dn K S H x d) (k : Q (.bl (isListD d)) H) : rIsi K [x, .ty "list"] H Q := r_isi h (kit_list d) k
/-! ### fields, methods, new instances -/
def FldAt (K : PySem.W.Frag) (f : Str) (x : V) (H : Hp) (Q : VK) : Prop := ∃ a C dx fs v, x = .ref a ∧ H a = some (.ins C dx fs) ∧ Cls K C ∧ NoAttr K C f ∧ fs.lookup f = some v ∧ Q v H
theorem r_fld (k : ta σ H fun x H1 => FldAt K f x H1 Q) : tFld K ta f σ H Q := k
theorem r_fldAt (h : H a = some (.ins C dx fs)) (c : Cls K C) (n : NoAttr K C f) (l : fs.lookup f = some v) (k : Q v H) : FldAt K f (.ref a) H Q := ⟨a, C, dx, fs, v, rfl, h, c, n, l, k⟩
def SetAt (K : PySem.W.Frag) (f : Str) (y : V) (x : V) (H : Hp) (R : Hp → Prop) : Prop := ∃ a C dx fs, x = .ref a ∧ H a = some (.ins C dx fs) ∧ Cls K C ∧ NoAttr K C f ∧ fs.length < 1000 ∧ R (upd H a (.ins C dx (putF f y fs)))
theorem r_sfld (k : tv σ H fun y H1 => ta σ H1 fun x H2 => SetAt K f y x H2 fun H3 => D.nx σ H3) : sFld K ta tv f D σ H := k
theorem r_setAt {R : Hp → Prop} {y : V} (h : H a = some (.ins C dx fs)) (c : Cls K C) (n : NoAttr K C f) (l : fs.length < 1000) (k : ∀ H', But [a] H H' → H' a = some (.ins C dx (putF f y fs)) → R H') : SetAt K f y (.ref a) H R :=
  ⟨a, C, dx, fs, rfl, h, c, n, l, k _ (But.write h (fun z => z) (by simp)) upd_same⟩
def AugAt (K : PySem.W.Frag) (f : Str) (σ : L2.St) (tv : TE) (rd : R2) (x : V) (H : Hp) (R : Hp → Prop) : Prop := ∃ a C dx fs v, x = .ref a ∧ H a = some (.ins C dx fs) ∧ Cls K C ∧ NoAttr K C f ∧ fs.lookup f = some v ∧
  tv σ H fun y H2 => rd v y H2 fun z H3 => ∃ dx' fs', H3 a = some (.ins C dx' fs') ∧ fs'.length < 1000 ∧ R (upd H3 a (.ins C dx' (putF f z fs')))
theorem r_sfldaug {rd : R2} (k : ta σ H fun x H1 => AugAt K f σ tv rd x H1 fun H3 => D.nx σ H3) : sFldAug K ta tv rd f D σ H := k
def PutAt (f : Str) (a C : Addr) (z : V) (H : Hp) (R : Hp → Prop) : Prop := ∃ dx' fs', H a = some (.ins C dx' fs') ∧ fs'.length < 1000 ∧ R (upd H a (.ins C dx' (putF f z fs')))
theorem r_putAt {R : Hp → Prop} {z : V} (h : H a = some (.ins C dx fs)) (l : fs.length < 1000) (k : ∀ H', But [a] H H' → H' a = some (.ins C dx (putF f z fs)) → R H') : PutAt f a C z H R :=
  ⟨dx, fs, h, l, k _ (But.write h (fun z => z) (by simp)) upd_same⟩
theorem r_augAt {R : Hp → Prop} {rd : R2} (h : H a = some (.ins C dx fs)) (c : Cls K C) (n : NoAttr K C f) (l : fs.lookup f = some v) (k : tv σ H fun y H2 => rd v y H2 fun z H3 => PutAt f a C z H3 R) : AugAt K f σ tv rd (.ref a) H R :=
  ⟨a, C, dx, fs, v, rfl, h, c, n, l, k⟩
def MethAt (C : Addr) (m : Str) (sp : Sp) (dvs : List V) (E : XK) (σ : L2.St) (t : TA) (x : V) (H : Hp) (Q : VK) : Prop := ∃ a dx fs, x = .ref a ∧ H a = some (.ins C dx fs) ∧ fs.lookup m = none ∧ t σ H fun vs H2 => sp (x :: (vs ++ dvs)) H2 Q E
theorem r_meth (k : ta σ H fun x H1 => MethAt C m sp dvs E σ t x H1 Q) : tMeth C m sp dvs E ta t σ H Q := k
theorem r_methAt (h : H a = some (.ins C dx fs)) (l : fs.lookup m = none) (k : t σ H fun vs H2 => sp (.ref a :: (vs ++ dvs)) H2 Q E) : MethAt C m sp dvs E σ t (.ref a) H Q := ⟨a, dx, fs, rfl, h, l, k⟩
def MakeAt (C : Addr) (sp : Sp) (dvs : List V) (E : XK) (vs : List V) (H : Hp) (Q : VK) : Prop := ∀ x dx, H x = none → H dx = none → dx ≠ x → sp (.ref x :: (vs ++ dvs)) (upd (upd H dx (.own x)) x (.ins C dx [])) (fun v H2 => v = .non ∧ Q (.ref x) H2) E
theorem r_make (k : t σ H fun vs H1 => MakeAt C sp dvs E vs H1 Q) : tMake C sp dvs E t σ H Q := k
theorem r_makeAt {vs : List V} (k : ∀ x dx H', H x = none → Same H H' → H' x = some (.ins C dx []) → sp (.ref x :: (vs ++ dvs)) H' (fun v H2 => v = .non ∧ Q (.ref x) H2) E) : MakeAt C sp dvs E vs H Q := fun x dx hx hd hn =>
  k x dx _ hx (fun b o e => by
    rw [upd_ne (ne_of_none e hx), upd_ne (ne_of_none e hd)]; exact e) upd_same
theorem r_callD (k : t σ H fun vs H1 => sp (vs ++ dvs) H1 Q E) : tCall sp dvs E t σ H Q := k
def KwAt (n m : Nat) (sp : Sp) (vs zs : List V) (H : Hp) (Q : VK) : Prop := vs.length = n ∧ zs.length = m ∧ sp (vs ++ zs) H Q E0
theorem r_kw {n m : Nat} (k : t σ H fun vs H1 => tk σ H1 fun zs H2 => KwAt n m sp vs zs H2 Q) : tKw n m sp t tk σ H Q := k
theorem r_kwAt {vs zs : List V} {n m : Nat} (h : vs.length = n) (h' : zs.length = m) (k : sp (vs ++ zs) H Q E0) : KwAt n m sp vs zs H Q := ⟨h, h', k⟩
/-! ### and, or as values, chains, is None -/
theorem r_isN (k : Q (.bl (decide (x = .non))) H) : (fun x y H (Q : VK) => y = V.non ∧ Q (.bl (decide (x = .non))) H) x .non H Q := ⟨rfl, k⟩
end
section
variable {σ : L2.St} {H : Hp} {K : PySem.W.Frag} {Q : VK} {ta tb te : TE} {x y : V} {a b : Addr} {xs ys : List V} {t : TA}
theorem r_andV (k : ta σ H fun x H1 => ∃ c, x = .bl c ∧ if c = true then tb σ H1 Q else Q (.bl false) H1) : tAndV ta tb σ H Q := k
theorem r_orV (k : ta σ H fun x H1 => ∃ c, x = .bl c ∧ if c = true then Q (.bl true) H1 else tb σ H1 Q) : tOrV ta tb σ H Q := k
theorem r_notV (k : ta σ H fun x H1 => ∃ c, x = .bl c ∧ Q (.bl (!c)) H1) : tNotV ta σ H Q := k
theorem r_leI {i j : Int} (k : Q (.bl (decide (i ≤ j))) H) : rI0 (fun i j => .bl (decide (i ≤ j))) (.int i) (.int j) H Q := ⟨i, j, rfl, rfl, k⟩
theorem r_chain {r r' : R2} {tc : TE} (k : ta σ H fun x H1 => tb σ H1 fun y H2 => r x y H2 fun z H3 => ∃ k, z = .bl k ∧ (if k = true then tc σ H3 fun w' H4 => r' y w' H4 Q else Q (.bl false) H3)) : tChain r r' ta tb tc σ H Q := k
/-- truth of a bool -/
theorem r_truB {c : Bool} {R : Bool → Prop} (k : R c) : ∃ n, TruV K (.bl c) H n ∧ R n := ⟨c, rfl, k⟩
theorem r_truA {R : Bool → Hp → Prop} (k : ta σ H fun x H' => ∃ k, TruV K x H' k ∧ R k H') : tTruA K ta σ H R := k
/-! ### zip in a comprehension -/
def LcZ (K : PySem.W.Frag) (g : TG) (tt : TT) (te : TE) (vs : List Nat) (σ : L2.St) (Q : VK) (ws : List V) (H : Hp) : Prop :=
  ∃ a b xs ys, ws = [.ref a, .ref b] ∧ ((SqL K H a xs ∧ SqL K H b ys ∧ LcG (Itz K a b) g tt te vs σ Q H) ∨ (SqT K H a xs ∧ SqT K H b ys ∧ LcG (RZ.ItzT K a b) g tt te vs σ Q H))
theorem r_lcZ {g : TG} {tt : TT} {vs : List Nat} (k : t σ H fun ws H1 => LcZ K g tt te vs σ Q ws H1) : tLc (RZ.iZipA K t) g tt te vs σ H Q := k
theorem lcZT {g : TG} {tt : TT} {vs : List Nat} (ha : SqT K H a xs) (hb : SqT K H b ys) (mk : ∀ l H0, H l = none → Same H H0 → H0 l = some (.lst []) → ∃ Pv : Nat → Hp → Prop, Pv 0 H0 ∧ (∀ i H, Pv i H → SqT K H a xs ∧ SqT K H b ys) ∧
      (∀ i x y T H H', xs[i]? = some x → ys[i]? = some y → Pv i H → H T = none → Same H H' → H' T = some (.tup [x, y]) → LTurn g tt te vs l (Pv (i + 1)) (.ref T) σ H') ∧ ∀ H, Pv (min xs.length ys.length) H → Q (.ref l) H) :
    LcZ K g tt te vs σ Q [.ref a, .ref b] H := by
  refine ⟨a, b, xs, ys, rfl, .inr ⟨ha, hb, fun l hl => ?_⟩⟩
  obtain ⟨Pv, h0, h1, h2, h3⟩ := mk l _ hl (But.new (S := []) hl).same upd_same
  refine ⟨fun i m H => m = min xs.length ys.length - i ∧ i ≤ min xs.length ys.length ∧ Pv i H, ⟨_, rfl, Nat.zero_le _, h0⟩, ?_⟩
  rintro i m H ⟨rfl, hi, p⟩
  obtain ⟨q1, q2⟩ := h1 i H p
  by_cases hlt : i < min xs.length ys.length
  · have e1 : xs[i]? = some xs[i] := List.getElem?_eq_getElem (by omega)
    have e2 : ys[i]? = some ys[i] := List.getElem?_eq_getElem (by omega)
    refine .inr ⟨⟨xs, ys, _, _, q1, q2, e1, e2⟩, Pv (i + 1), fun H' p' => ⟨_, by omega, rfl, by omega, p'⟩, fun v H' y => ?_⟩
    obtain ⟨T, x, z, rfl, hT, rfl, f1, f2⟩ := y
    exact h2 i x z T H _ (f1 xs q1) (f2 ys q2) p hT (But.new (S := []) hT).same upd_same
  · have e : i = min xs.length ys.length := by omega
    refine .inl ⟨⟨xs, ys, q1, q2, by omega⟩, h3 H ?_⟩
    rw [← e]; exact p
end
section
variable {H : Hp} {K : PySem.W.Frag} {Q : VK} {p : Addr} {xs : List V}
/-- t[lo:hi] of a tuple -/
theorem r_slT {lo hi : Option Int} (h : SqT K H p xs) (k : ∀ l H', Same H H' → SqT K H' l (cutV xs lo hi) → Q (.ref l) H') : rSlAny K (.ref p) lo hi H Q := by
  refine .inr ⟨p, xs, rfl, h, fun c => ?_, fun c l hl => k l _ (But.new (S := []) hl).same (SqT.of upd_same)⟩
  have e : cutV xs lo hi = xs := by
    unfold cutV
    rw [c.1, c.2, List.drop_zero, Nat.sub_zero, List.take_of_length_le (Nat.le_refl _)]
  exact k p H (fun _ _ e => e) (by rw [e]; exact h)
end
theorem at0 {a : V} {xs : List V} : atI (a :: xs) 0 = some a := atI_nat (xs := a :: xs) (j := 0) rfl
theorem at1 {a b : V} {xs : List V} : atI (a :: b :: xs) 1 = some b := atI_nat (xs := a :: b :: xs) (j := 1) rfl
theorem at2 {a b c : V} {xs : List V} : atI (a :: b :: c :: xs) 2 = some c := atI_nat (xs := a :: b :: c :: xs) (j := 2) rfl
def rIsNn : R2 := fun x y H Q => y = .non ∧ Q (.bl (decide (x = .non))) H
def rNotNn : R2 := fun x y H Q => y = .non ∧ Q (.bl (!decide (x = .non))) H
theorem op_isNA {X : Cx} : OpR X (compareOp .Is) rIsNn := op_isN
theorem op_notNA {X : Cx} : OpR X (compareOp .IsNot) rNotNn := op_notN
theorem r_isNn {x : V} {H : Hp} {Q : VK} (k : Q (.bl (decide (x = .non))) H) : rIsNn x .non H Q := ⟨rfl, k⟩
theorem r_notNn {x : V} {H : Hp} {Q : VK} (k : Q (.bl (!decide (x = .non))) H) : rNotNn x .non H Q := ⟨rfl, k⟩
end J

set_option Elab.async false
set_option linter.all false
set_option maxRecDepth 100000
set_option maxHeartbeats 4000000
namespace J
open PySem L2 PyProof.Rows
/-! ### numbers, values -/
def intB : PyData → Bool
  | .int _ => true
  | _ => false
def betB (d : PyData) (lo hi : Int) : Bool := match d with
  | .int i => decide (lo ≤ i) && decide (i ≤ hi)
  | _ => false
mutual
def valB : PyData → Nat → Bool
  | .tuple xs, k => decide (k < 8) && valsB xs (k + 1)
  | .int _, _ => true
  | .str _, _ => true
  | _, _ => false
def valsB : List PyData → Nat → Bool
  | [], _ => true
  | x :: xs, k => valB x k && valsB xs k
end
theorem valsB_all {k : Nat} : ∀ {xs : List PyData}, valsB xs k = xs.all fun x => valB x k
  | [] => rfl
  | x :: xs => by
    show (valB x k && valsB xs k) = _
    rw [valsB_all]; rfl
mutual
theorem valB_nol : ∀ (d : PyData) (k : Nat), valB d k = true → noL d = true
  | .tuple xs, k, h => by
    have h2 : (decide (k < 8) && valsB xs (k + 1)) = true := h
    rw [Bool.and_eq_true] at h2
    exact valsB_nol xs (k + 1) h2.2
  | .int _, _, _ => rfl
  | .str _, _, _ => rfl
  | .none, _, h => rfl
  | .bool _, _, h => rfl
  | .list _, _, h => by simp [valB] at h
  | .dict _, _, h => by simp [valB] at h
theorem valsB_nol : ∀ (ds : List PyData) (k : Nat), valsB ds k = true → noLs ds = true
  | [], _, _ => rfl
  | x :: xs, k, h => by
    have h2 : (valB x k && valsB xs k) = true := h
    rw [Bool.and_eq_true] at h2
    show (noL x && noLs xs) = true
    rw [valB_nol x k h2.1, valsB_nol xs k h2.2]; rfl
end
theorem noLs_all : ∀ {xs : List PyData}, noLs xs = true ↔ ∀ x ∈ xs, noL x = true
  | [] => by simp [noLs]
  | x :: xs => by
    have ih := noLs_all (xs := xs)
    show (noL x && noLs xs) = true ↔ _
    rw [Bool.and_eq_true, ih]
    simp
theorem noLs_map {α : Type} {f : α → PyData} {xs : List α} (h : ∀ x ∈ xs, noL (f x) = true) : noLs (xs.map f) = true :=
  noLs_all.mpr fun d hd => by
    obtain ⟨x, hx, rfl⟩ := List.mem_map.mp hd
    exact h x hx
section
variable {K : PySem.W.Frag} {S S' T : List Addr} {H H' : Hp} {v : V} {d : PyData} {vs : List V} {ds : List PyData}
/-- data without lists stays whatever else changes -/
theorem Dn.nlb (h : Dn K S H v d) (n : noL d = true) (b : But T H H') : Dn K S' H' v d :=
  ((h.any n (T := T)).but b fun _ q => q).any n
theorem DnAll.nlb (h : DnAll K S H vs ds) (n : noLs ds = true) (b : But T H H') : DnAll K S' H' vs ds :=
  ((h.any n (T := T)).but b fun _ q => q).any n
end
/-! ### no tuple of more than a million items -/
mutual
def slim : PyData → Bool
  | .tuple xs => decide (xs.length ≤ 1000000) && slims xs
  | .list xs => decide (xs.length ≤ 1000000) && slims xs
  | _ => true
def slims : List PyData → Bool
  | [] => true
  | x :: xs => slim x && slims xs
end
theorem slims_mem {xs : List PyData} {d : PyData} (h : slims xs = true) (hd : d ∈ xs) : slim d = true := by
  induction xs with
  | nil => simp at hd
  | cons x xs ih =>
    have h2 : (slim x && slims xs) = true := h
    rw [Bool.and_eq_true] at h2
    rcases List.mem_cons.mp hd with e | hd
    · rw [e]; exact h2.1
    · exact ih h2.2 hd
theorem slim_tup {xs : List PyData} (h : slim (.tuple xs) = true) : xs.length ≤ 1000000 ∧ slims xs = true := by
  have h2 : (decide (xs.length ≤ 1000000) && slims xs) = true := h
  rw [Bool.and_eq_true, decide_eq_true_iff] at h2
  exact h2
/-! ### frames over sets of addresses -/
/-- none of them is in use -/
def Fr (S : List Addr) (H : Hp) : Prop := ∀ s ∈ S, H s = none
/-- no address of both -/
def Dj (S T : List Addr) : Prop := ∀ s ∈ S, s ∉ T
section
variable {S T U : List Addr} {H H' H1 : Hp} {a : Addr}
theorem Dj.symm (h : Dj S T) : Dj T S := fun t ht hs => h t hs ht
theorem Dj.nil : Dj S [] := fun _ _ h => nomatch h
theorem Dj.nil' : Dj [] S := fun _ h => nomatch h
theorem Dj.cons (h : a ∉ S) (k : Dj S T) : Dj S (a :: T) := fun s hs ht => (List.mem_cons.mp ht).elim (fun e => h (e ▸ hs)) (k s hs)
theorem Dj.of_fr (h : Fr S H) (l : Live T H) : Dj S T := fun s hs ht => l s ht (h s hs)
theorem ni_fr (h : Fr S H) (l : H a ≠ none) : a ∉ S := fun z => l (h a z)
theorem bc_frs (h : Fr T H) : ∀ t ∈ T, t ∈ S ∨ H t = none := fun t ht => .inr (h t ht)
theorem bc_self : ∀ t ∈ S, t ∈ S ∨ H t = none := fun _ h => .inl h
theorem bc_sub (h : ∀ t ∈ T, t ∈ S) : ∀ t ∈ T, t ∈ S ∨ H t = none := fun t ht => .inl (h t ht)
theorem fr_back (h : Fr S H') (l : Le H H') : Fr S H := fun s hs => fr_le l (h s hs)
end
/-- what a block may hold here -/
def blockB (v : PyData) : Bool := valB v 0 && (slim v && v.canLay0)
theorem blockB_val {v : PyData} (h : blockB v = true) : valB v 0 = true := by
  unfold blockB at h; rw [Bool.and_eq_true] at h; exact h.1
theorem blockB_slim {v : PyData} (h : blockB v = true) : slim v = true := by
  unfold blockB at h; rw [Bool.and_eq_true, Bool.and_eq_true] at h; exact h.2.1
theorem blockB_lay {v : PyData} (h : blockB v = true) : v.canLay0 = true := by
  unfold blockB at h; rw [Bool.and_eq_true, Bool.and_eq_true] at h; exact h.2.2
theorem blockB_nol {v : PyData} (h : blockB v = true) : noL v = true := valB_nol v 0 (blockB_val h)
mutual
theorem valB_dep : ∀ (d : PyData) (k : Nat), valB d k = true → d.depth + k ≤ 9 + k ∧ (d.depth = 0 ∨ d.depth + k ≤ 9)
  | .tuple xs, k, h => by
    have h2 : (decide (k < 8) && valsB xs (k + 1)) = true := h
    rw [Bool.and_eq_true, decide_eq_true_iff] at h2
    have h3 := valsB_dep xs (k + 1) h2.2
    have e : (PyData.tuple xs).depth = PyData.depthAll xs + 1 := rfl
    rw [e]
    omega
  | .int _, _, _ => ⟨by show 0 + _ ≤ _; omega, .inl rfl⟩
  | .str _, _, _ => ⟨by show 0 + _ ≤ _; omega, .inl rfl⟩
  | .none, _, h => by simp [valB] at h
  | .bool _, _, h => by simp [valB] at h
  | .list _, _, h => by simp [valB] at h
  | .dict _, _, h => by simp [valB] at h
theorem valsB_dep : ∀ (ds : List PyData) (k : Nat), valsB ds k = true → PyData.depthAll ds = 0 ∨ PyData.depthAll ds + k ≤ 9
  | [], _, _ => .inl rfl
  | x :: xs, k, h => by
    have h2 : (valB x k && valsB xs k) = true := h
    rw [Bool.and_eq_true] at h2
    have h3 := valB_dep x k h2.1
    have h4 := valsB_dep xs k h2.2
    have e : PyData.depthAll (x :: xs) = max x.depth (PyData.depthAll xs) := rfl
    rw [e]
    omega
end
theorem blockB_shaped {v : PyData} (h : blockB v = true) : SeqAt.shaped v = true := by
  have h1 := (valB_dep v 0 (blockB_val h)).1
  unfold SeqAt.shaped
  rw [blockB_lay h, decide_eq_true (by omega)]; rfl
/-! ### disks -/
structure DM where
  first : List PyData
  safe : List PyData
  writes : List (Int × PyData)
  deeds : List (Option (Int × PyData))
def dWr (w : Int × PyData) : PyData := .tuple [.int w.1, w.2]
def dEv : Option (Int × PyData) → PyData
  | some w => .tuple [.str "write", .int w.1, w.2]
  | none => .tuple [.str "flush"]
def zeros (n : Nat) : List PyData := List.replicate n (.int 0)
def DM.new (n : Nat) : DM := ⟨zeros n, zeros n, [], []⟩
def lastW (ws : List (Int × PyData)) (b : Int) (d : PyData) : PyData := ws.foldl (fun acc w => if w.1 = b then w.2 else acc) d
def DM.read (D : DM) (b : Int) : PyData := lastW D.writes b (D.safe.getD b.toNat .none)
def DM.write (D : DM) (b : Int) (v : PyData) : DM := { D with writes := D.writes ++ [(b, v)], deeds := D.deeds ++ [some (b, v)] }
def putAll (ws : List (Int × PyData)) (s : List PyData) : List PyData := ws.foldl (fun s w => s.set w.1.toNat w.2) s
def DM.flush (D : DM) : DM := { D with safe := putAll D.writes D.safe, writes := [], deeds := D.deeds ++ [none] }
/-- a right disk of n blocks, at most m events -/
structure DOk (n m : Nat) (D : DM) : Prop where
  n1 : 1 ≤ n
  n2 : n ≤ 128
  fl : D.first.length = n
  sl : D.safe.length = n
  fv : ∀ v ∈ D.first, blockB v = true
  sv : ∀ v ∈ D.safe, blockB v = true
  wv : ∀ w ∈ D.writes, 0 ≤ w.1 ∧ w.1 < n ∧ blockB w.2 = true
  dv : ∀ w, some w ∈ D.deeds → 0 ≤ w.1 ∧ w.1 < n ∧ blockB w.2 = true
  wl : D.writes.length ≤ D.deeds.length
  dl : D.deeds.length ≤ m
theorem putAll_length (ws : List (Int × PyData)) (s : List PyData) : (putAll ws s).length = s.length := by
  unfold putAll
  induction ws generalizing s with
  | nil => rfl
  | cons w ws ih => rw [List.foldl_cons, ih, List.length_set]
theorem putAll_mem {ws : List (Int × PyData)} {s : List PyData} {v : PyData} (h : v ∈ putAll ws s) : v ∈ s ∨ ∃ w ∈ ws, v = w.2 := by
  unfold putAll at h
  induction ws generalizing s with
  | nil => exact .inl h
  | cons w ws ih =>
    rw [List.foldl_cons] at h
    rcases ih h with h | ⟨u, hu, e⟩
    · rcases List.mem_or_eq_of_mem_set h with h | h
      · exact .inl h
      · exact .inr ⟨w, List.mem_cons_self, h⟩
    · exact .inr ⟨u, List.mem_cons_of_mem _ hu, e⟩
theorem DOk.new {n : Nat} (h1 : 1 ≤ n) (h2 : n ≤ 128) : DOk n 0 (DM.new n) :=
  ⟨h1, h2, List.length_replicate, List.length_replicate, fun v hv => by rw [List.eq_of_mem_replicate hv]; rfl, fun v hv => by rw [List.eq_of_mem_replicate hv]; rfl,
    fun w h => by simp [DM.new] at h, fun w h => by simp [DM.new] at h, Nat.le_refl _, Nat.le_refl _⟩
theorem DOk.write {n m : Nat} {D : DM} {b : Int} {v : PyData} (h : DOk n m D) (h0 : 0 ≤ b) (h1 : b < n) (hv : blockB v = true) : DOk n (m + 1) (D.write b v) := by
  refine ⟨h.n1, h.n2, h.fl, h.sl, h.fv, h.sv, fun w hw => ?_, fun w hw => ?_, ?_, ?_⟩
  · rcases List.mem_append.mp hw with hw | hw
    · exact h.wv w hw
    · rw [List.mem_singleton.mp hw]; exact ⟨h0, h1, hv⟩
  · rcases List.mem_append.mp hw with hw | hw
    · exact h.dv w hw
    · rw [Option.some.inj (List.mem_singleton.mp hw)]; exact ⟨h0, h1, hv⟩
  · have := h.wl
    simp only [DM.write, List.length_append, List.length_singleton]; omega
  · have := h.dl
    simp only [DM.write, List.length_append, List.length_singleton]; omega
theorem DOk.flush {n m : Nat} {D : DM} (h : DOk n m D) : DOk n (m + 1) D.flush := by
  refine ⟨h.n1, h.n2, h.fl, (putAll_length _ _).trans h.sl, h.fv, fun v hv => ?_, fun w hw => by simp [DM.flush] at hw, fun w hw => ?_, Nat.zero_le _, ?_⟩
  · rcases putAll_mem hv with hv | ⟨w, hw, rfl⟩
    · exact h.sv v hv
    · exact (h.wv w hw).2.2
  · rcases List.mem_append.mp hw with hw | hw
    · exact h.dv w hw
    · exact nomatch List.mem_singleton.mp hw
  · have := h.dl
    simp only [DM.flush, List.length_append, List.length_singleton]; omega
theorem DOk.mono {n m m' : Nat} {D : DM} (h : DOk n m D) (l : m ≤ m') : DOk n m' D := ⟨h.n1, h.n2, h.fl, h.sl, h.fv, h.sv, h.wv, h.dv, h.wl, Nat.le_trans h.dl l⟩
theorem lastW_cases {ws : List (Int × PyData)} {b : Int} {d : PyData} : lastW ws b d = d ∨ ∃ w ∈ ws, w.1 = b ∧ lastW ws b d = w.2 := by
  unfold lastW
  induction ws generalizing d with
  | nil => exact .inl rfl
  | cons w ws ih =>
    rw [List.foldl_cons]
    rcases ih (d := if w.1 = b then w.2 else d) with h | ⟨u, hu, e1, e2⟩
    · rw [h]
      by_cases hb : w.1 = b
      · rw [if_pos hb]; exact .inr ⟨w, List.mem_cons_self, hb, rfl⟩
      · rw [if_neg hb]; exact .inl rfl
    · exact .inr ⟨u, List.mem_cons_of_mem _ hu, e1, e2⟩
theorem DOk.read {n m : Nat} {D : DM} {b : Int} (h : DOk n m D) (h0 : 0 ≤ b) (h1 : b < n) : blockB (D.read b) = true := by
  unfold DM.read
  rcases lastW_cases (ws := D.writes) (b := b) (d := D.safe.getD b.toNat .none) with e | ⟨w, hw, _, e⟩
  · rw [e]
    have hl : b.toNat < D.safe.length := by rw [h.sl]; omega
    rw [List.getD_eq_getElem?_getD, List.getElem?_eq_getElem hl]
    exact h.sv _ (List.getElem_mem hl)
  · rw [e]; exact (h.wv w hw).2.2
/-! the disk on the heap -/
def diskF (l1 l2 l3 l4 : Addr) : List (Str × V) := [("first", .ref l1), ("safe", .ref l2), ("writes", .ref l3), ("deeds", .ref l4)]
structure DiskAt (K : PySem.W.Frag) (C : Addr) (H : Hp) (d : Addr) (fd : List Addr) (n m : Nat) (D : DM) : Prop where
  ok : DOk n m D
  ex : ∃ dx l1 l2 l3 l4 x1 x2 x3 x4, fd = [d, l1, l2, l3, l4] ∧ [d, l1, l2, l3, l4].Nodup ∧ H d = some (.ins C dx (diskF l1 l2 l3 l4)) ∧ H l1 = some (.lst x1) ∧ H l2 = some (.lst x2) ∧ H l3 = some (.lst x3) ∧ H l4 = some (.lst x4) ∧
    DnAll K [] H x1 D.first ∧ DnAll K [] H x2 D.safe ∧ DnAll K [] H x3 (D.writes.map dWr) ∧ DnAll K [] H x4 (D.deeds.map dEv)
section
variable {K : PySem.W.Frag} {C : Addr} {H H' : Hp} {d : Addr} {fd T : List Addr} {n m : Nat} {D : DM}
theorem DOk.nl1 (h : DOk n m D) : noLs D.first = true := noLs_all.mpr fun v hv => blockB_nol (h.fv v hv)
theorem DOk.nl2 (h : DOk n m D) : noLs D.safe = true := noLs_all.mpr fun v hv => blockB_nol (h.sv v hv)
theorem nol_dWr {w : Int × PyData} (h : noL w.2 = true) : noL (dWr w) = true := by
  show (true && (noL w.2 && true)) = true
  rw [h]; rfl
theorem nol_dEv {w : Option (Int × PyData)} (h : ∀ u, w = some u → noL u.2 = true) : noL (dEv w) = true := by
  cases w with
  | none => rfl
  | some u =>
    show (true && (true && (noL u.2 && true))) = true
    rw [h u rfl]; rfl
theorem DOk.nl3 (h : DOk n m D) : noLs (D.writes.map dWr) = true := noLs_map fun w hw => nol_dWr (blockB_nol (h.wv w hw).2.2)
theorem DOk.nl4 (h : DOk n m D) : noLs (D.deeds.map dEv) = true := noLs_map fun w hw => nol_dEv fun u e => blockB_nol (h.dv u (e ▸ hw)).2.2
theorem DiskAt.but (h : DiskAt K C H d fd n m D) (b : But T H H') (nd : Dj fd T) : DiskAt K C H' d fd n m D := by
  obtain ⟨ok, dx, l1, l2, l3, l4, x1, x2, x3, x4, rfl, hnd, h0, h1, h2, h3, h4, v1, v2, v3, v4⟩ := h
  refine ⟨ok, dx, l1, l2, l3, l4, x1, x2, x3, x4, rfl, hnd, b.at h0 (nd _ (by simp)), b.at h1 (nd _ (by simp)), b.at h2 (nd _ (by simp)), b.at h3 (nd _ (by simp)), b.at h4 (nd _ (by simp)),
    v1.nlb ok.nl1 b, v2.nlb ok.nl2 b, v3.nlb ok.nl3 b, v4.nlb ok.nl4 b⟩
theorem DiskAt.same (h : DiskAt K C H d fd n m D) (b : Same H H') : DiskAt K C H' d fd n m D := h.but (But.of_same (S := []) b) Dj.nil
theorem DiskAt.live (h : DiskAt K C H d fd n m D) : Live fd H := by
  obtain ⟨ok, dx, l1, l2, l3, l4, x1, x2, x3, x4, rfl, hnd, h0, h1, h2, h3, h4, v1, v2, v3, v4⟩ := h
  exact .cons h0 (.cons h1 (.cons h2 (.cons h3 (.cons h4 .nil))))
theorem DiskAt.mono {m' : Nat} (h : DiskAt K C H d fd n m D) (l : m ≤ m') : DiskAt K C H d fd n m' D := ⟨h.ok.mono l, h.ex⟩
end
end J

set_option Elab.async false
set_option linter.all false
set_option maxRecDepth 100000
set_option maxHeartbeats 4000000
namespace J
open PySem L2 PyProof.Rows
/-! ### records -/
inductive Rc where
  | commit
  | revoke (hs : List Int)
  | desc (hs : List Int)
  | copy (v : PyData)
def dHs (hs : List Int) : PyData := .tuple (hs.map .int)
def rcD (num : Int) : Rc → PyData
  | .commit => .tuple [.str "commit", .int num]
  | .revoke hs => .tuple [.str "revoke", .int num, dHs hs]
  | .desc hs => .tuple [.str "descriptor", .int num, dHs hs]
  | .copy v => .tuple [.str "copy", .int num, v]
def ascB : List Int → Bool
  | [] => true
  | [_] => true
  | a :: b :: r => decide (a < b) && ascB (b :: r)
/-- is_group -/
def groupB : PyData → Bool
  | .tuple ds => decide (1 ≤ ds.length) && decide (ds.length ≤ 8) && (ds.all (fun d => betB d 0 31) && ((ds.zip (ds.drop 1)).all fun q => match q with
      | (.int a, .int b) => decide (a < b)
      | _ => false))
  | _ => false
def intsOf : List PyData → List Int
  | [] => []
  | .int i :: r => i :: intsOf r
  | _ :: r => intsOf r
theorem intsOf_map : ∀ {ds : List PyData}, (ds.all fun d => betB d 0 31) = true → ds = (intsOf ds).map .int
  | [], _ => rfl
  | .int i :: r, h => by
    rw [List.all_cons, Bool.and_eq_true] at h
    show PyData.int i :: r = .int i :: (intsOf r).map .int
    rw [← intsOf_map h.2]
  | .none :: _, h => by simp [betB] at h
  | .bool _ :: _, h => by simp [betB] at h
  | .str _ :: _, h => by simp [betB] at h
  | .list _ :: _, h => by simp [betB] at h
  | .tuple _ :: _, h => by simp [betB] at h
  | .dict _ :: _, h => by simp [betB] at h
/-- what stands in a slot, read as a record of the number -/
def parse (num : Int) (d : PyData) : Option Rc :=
  match d with
  | .tuple [k, n] => if PyData.eqv n (.int num) && intB n && PyData.eqv k (.str "commit") then some .commit else none
  | .tuple [k, n, x] =>
    if PyData.eqv n (.int num) && intB n then
      if PyData.eqv k (.str "copy") then some (.copy x)
      else if PyData.eqv k (.str "revoke") && groupB x then (match x with | .tuple ds => some (.revoke (intsOf ds)) | _ => none)
      else if PyData.eqv k (.str "descriptor") && groupB x then (match x with | .tuple ds => some (.desc (intsOf ds)) | _ => none)
      else none
    else none
  | _ => none
theorem eqv_int {n : PyData} {num : Int} (h : (PyData.eqv n (.int num) && intB n) = true) : n = .int num := by
  rw [Bool.and_eq_true] at h
  cases n <;> simp_all [intB, PyData.eqv]
theorem eqv_str {k : PyData} {s : Str} : PyData.eqv k (.str s) = true ↔ k = .str s := by
  cases k <;> simp [PyData.eqv]
theorem parse_some {num : Int} {d : PyData} {r : Rc} (h : parse num d = some r) : d = rcD num r := by
  unfold parse at h
  split at h
  · split at h
    · rename_i hc
      rw [Bool.and_eq_true] at hc
      cases h
      rw [eqv_int hc.1, eqv_str.mp hc.2]; rfl
    · cases h
  · split at h
    · rename_i hc
      rw [eqv_int hc]
      split at h
      · rename_i h1
        cases h
        rw [eqv_str.mp h1]; rfl
      · split at h
        · rename_i h1
          rw [Bool.and_eq_true] at h1
          split at h
          · rename_i ds
            cases h
            have hg := h1.2
            unfold groupB at hg
            simp only [Bool.and_eq_true] at hg
            rw [eqv_str.mp h1.1]
            show _ = PyData.tuple [.str "revoke", .int num, .tuple ((intsOf ds).map .int)]
            rw [← intsOf_map hg.2.1]
          · cases h
        · split at h
          · rename_i h1
            rw [Bool.and_eq_true] at h1
            split at h
            · rename_i ds hn
              cases h
              have hg := h1.2
              unfold groupB at hg
              simp only [Bool.and_eq_true] at hg
              rw [eqv_str.mp h1.1]
              show _ = PyData.tuple [.str "descriptor", .int num, .tuple ((intsOf ds).map .int)]
              rw [← intsOf_map hg.2.1]
            · cases h
          · cases h
    · cases h
  · cases h
/-! ### transactions in the ring: rec tells what stands in a slot, of s slots -/
section
variable (s : Nat) (rec : Nat → Option Rc)
def takeC : List Int → Nat → Nat → List (Int × PyData) → Option (Nat × Nat × List (Int × PyData))
  | [], p, l, cs => some (p, l, cs)
  | h :: hs, p, l, cs => if l = 0 then none else match rec p with
    | some (.copy v) => takeC hs ((p + 1) % s) (l - 1) (cs ++ [(h, v)])
    | _ => none
def complete : Nat → Nat → Nat → List (Int × PyData) → List Int → Option (List (Int × PyData) × List Int × Nat)
  | 0, _, _, _, _ => none
  | fuel + 1, p, l, cs, rs => if l = 0 then none else match rec p with
    | some .commit => some (cs, rs, (p + 1) % s)
    | some (.revoke hs) => complete fuel ((p + 1) % s) (l - 1) cs (rs ++ hs)
    | some (.desc hs) => (match takeC s rec hs ((p + 1) % s) (l - 1) cs with
      | some (p', l', cs') => complete fuel p' l' cs' rs
      | none => none)
    | _ => none
end
def DM.rc (D : DM) (num : Int) (slot : Nat) : Option Rc := parse num (D.read (1 + (slot : Int)))
def txAt (s : Nat) (D : DM) (num : Int) (slot : Nat) : Option (List (Int × PyData) × List Int × Nat) := complete s (D.rc num) (s + 1) slot s [] []
/-- scan: the transactions, the next number, the next slot -/
def scanGo (s : Nat) (D : DM) : Nat → Int → Nat → Nat → List (Int × List (Int × PyData) × List Int) → List (Int × List (Int × PyData) × List Int) × Int × Nat
  | 0, num, slot, _, found => (found, num, slot)
  | fuel + 1, num, slot, left, found => match txAt s D num slot with
    | none => (found, num, slot)
    | some (cs, rs, next) =>
      let taken := ((next : Int) - slot - 1) % s + 1
      if taken > left then (found, num, slot) else scanGo s D fuel (num + 1) next (left - taken.toNat) (found ++ [(num, cs, rs)])
end J

set_option Elab.async false
set_option linter.all false
set_option maxRecDepth 100000
set_option maxHeartbeats 4000000
namespace J
open PySem PySem.Spec L2 PyProof.Rows
/-! ### list += tuple -/
section
variable {M : Model} {A : Around} {E : Value → Shared → Prop} {s : Shared} {x y : Value}
theorem bin1_neither {T U nm : String} {Q : Option Value → Shared → Prop} (tx : s.TypeIs x T) (ty : s.TypeIs y U) (ne : (Value.type T == Value.type U) = false)
    (nT : fillsNumberSlot (.type T) nm = pure false) (nU : fillsNumberSlot (.type U) nm = pure false) (q : Q none s) : wpAny M A (binaryOp1 nm x y) Q E s := by
  simp only [binaryOp1]
  refine wpAny_bind (wpAny_typeOf tx ?_)
  refine wpAny_bind (wpAny_typeOf ty ?_)
  refine wpAny_bind (wpAny_of_eq nT ?_)
  rw [ne]
  simp only [Bool.false_eq_true, if_false]
  refine wpAny_bind (wpAny_of_eq nU ?_)
  simp only [Bool.false_and, Bool.false_eq_true, if_false, pure_bind, beq_self_eq_true, if_true]
  exact wpAny_pure q
theorem iadd_listTup {Q : Value → Shared → Prop} (tx : s.TypeIs x "list") (ty : s.TypeIs y "tuple") (q : wpAny M A (call (.builtin "list.__iadd__") [x, y]) Q E s) : wpAny M A (inplaceOp .Add x y) Q E s := by
  have lk : typeLookup (.type "list") (dunderI "add") = pure (some (.builtin "list.__iadd__")) := F.slot_list_iadd.lookup
  have sq : isSeqSlot (some (.builtin "list.__iadd__")) = true := by decide +kernel
  have f0 : fillsInplaceSlot (.type "list") "add" (Operator.Add == .Add) = pure false := by
    unfold fillsInplaceSlot
    simp only [lk, pure_bind, sq]
    rfl
  unfold inplaceOp
  refine wpAny_holding (wpAny_bind (wpAny_typeOf tx (wpAny_bind ?_)))
  refine wpAny_of_eq f0 ?_
  simp only [Bool.false_eq_true, if_false]
  refine wpAny_bind (bin1_neither tx ty (by decide +kernel) noFill_list_add noFill_tuple_add ?_)
  refine wpAny_bind (wpAny_of_eq (PySem.seqSlot_of lk sq) ?_)
  exact wpAny_bind (wpAny_rule q)
end
def rExtT (K : PySem.W.Frag) : R2 := fun x y H Q => ∃ l b xs ys, x = .ref l ∧ y = .ref b ∧ H l = some (.lst xs) ∧ SqT K H b ys ∧ xs.length + ys.length ≤ sizeLine ∧ Q (.ref l) (upd H l (.lst (xs ++ ys)))
section
variable {X : Cx} {K : PySem.W.Frag}
theorem iop_extT (e : X.K = K := by rfl) : OpR X (inplaceOp .Add) (rExtT K) := by
  subst e
  rintro pins s σ H x y v u Q I rx ry ⟨l, b, xs, ys, rfl, rfl, hl, hb, hz, q⟩
  cases rx
  cases ry
  obtain ⟨z1, its, n, r1, e1, g1⟩ := I.lstM hl
  obtain ⟨jts, r2, ⟨o, g2, c2, m, d2⟩, z2⟩ := I.tuple hb
  have k1 := r1.length
  have k2 := r2.length
  have ty : s.TypeIs (.ref b) "tuple" := ⟨o, g2, c2⟩
  refine iadd_listTup ⟨_, g1, rfl⟩ ty ?_
  refine wpAny_call_entry F.slot_list_iadd ⟨_, g1, rfl⟩ F.entry_list_iadd ?_ (F.args_list_iadd_2 _ _)
  have nl : Builtin.List.listTooLong (its.toArray.size + jts.toArray.size) = false := notLongL (by rw [List.size_toArray, List.size_toArray]; omega)
  show wpAny _ _ (Builtin.List.listExtendWith (.ref l) (.ref b) (.ref l)) _ _ _
  unfold Builtin.List.listExtendWith
  refine wpAny_bind (wpAny_typeOf ty ?_)
  have cnd : (Builtin.List.listSameRef (.ref l) (.ref b) || Value.type "tuple" == Value.type "list" || Value.type "tuple" == Value.type "tuple") = true := by simp
  rw [if_pos cnd]
  refine wpAny_bind (listItems_at g2 d2 ?_)
  refine wpAny_bind (listItems_at g1 rfl ?_)
  rw [nl, Bool.and_false]
  simp only [Bool.false_eq_true, if_false]
  refine wpAny_bind (listUpdate_at g1 rfl ?_ (by rw [List.size_toArray]; omega) (by rw [Array.size_append, List.size_toArray, List.size_toArray]; omega))
  refine wpAny_pure ⟨.ref l, rfl, .ref l, _, I.lset (its' := its ++ jts) (t' := s.toks) hl g1 (by simp) (r1.append r2) ?_, rfl, q⟩
  rw [List.length_append]; exact hz
theorem ip_addT (e : X.K = K := by rfl) : PIp X .Add (fun x y H Q => rIadd x y H Q ∨ rExtT K x y H Q) := by
  subst e
  exact OpR.or (f := inplaceOp .Add) ip_addA iop_extT
end
def rIaddT (K : PySem.W.Frag) : R2 := fun x y H Q => rIadd x y H Q ∨ rExtT K x y H Q
theorem ip_addTA {X : Cx} {K : PySem.W.Frag} (e : X.K = K := by rfl) : PIp X .Add (rIaddT K) := ip_addT e
section
variable {K : PySem.W.Frag} {H : Hp} {Q : VK} {l p : Addr} {xs ys : List V}
theorem r_extT (h : H l = some (.lst xs)) (h' : SqT K H p ys) (c : xs.length + ys.length ≤ sizeLine) (k : ∀ H', But [l] H H' → H' l = some (.lst (xs ++ ys)) → Q (.ref l) H') : rIaddT K (.ref l) (.ref p) H Q :=
  .inr ⟨l, p, xs, ys, rfl, rfl, h, h', c, k _ (But.write h (fun z => z) (by simp)) upd_same⟩
theorem r_extLT (h : H l = some (.lst xs)) (h' : H p = some (.lst ys)) (c : xs.length + ys.length ≤ sizeLine) (k : ∀ H', But [l] H H' → H' l = some (.lst (xs ++ ys)) → Q (.ref l) H') : rIaddT K (.ref l) (.ref p) H Q :=
  .inl (r_ext h h' c k)
end
/-! ### while True -/
theorem whileT {K : PySem.W.Frag} {tb : TS} {D : Ends} {σ : L2.St} {H : Hp} {m0 : Nat} (Pv : Nat → L2.St → Hp → Prop) (h0 : Pv m0 σ H)
    (hs : ∀ m σ H, Pv m σ H → tb { D with nx := fun σ' H' => ∃ m', m' < m ∧ Pv m' σ' H', ct := fun σ' H' => ∃ m', m' < m ∧ Pv m' σ' H', bk := D.nx } σ H) : tWhile (tTruA K (tC (.bl true))) tb D σ H := by
  refine ⟨Pv, ⟨m0, h0⟩, fun m σ H p => ?_⟩
  refine ⟨true, rfl, ?_⟩
  dsimp only
  rw [if_pos rfl]
  exact ⟨fun σ' H' => ∃ m', m' < m ∧ Pv m' σ' H', fun _ _ h => h, hs m σ H p⟩
theorem ascInts_len {x : PyData} {ds : List PyData} (h : groupB x = true) (e : x = .tuple ds) : (intsOf ds).length ≤ 8 := by
  subst e
  unfold groupB at h
  simp only [Bool.and_eq_true, decide_eq_true_iff] at h
  have := intsOf_map h.2.1
  have e2 : ds.length = (intsOf ds).length := by
    conv => lhs; rw [this]
    rw [List.length_map]
  omega
theorem parse_len {num : Int} {d : PyData} {hs : List Int} (h : parse num d = some (.revoke hs) ∨ parse num d = some (.desc hs)) : hs.length ≤ 8 := by
  have hd : d = rcD num (.revoke hs) ∨ d = rcD num (.desc hs) := h.imp parse_some parse_some
  rcases h with h | h
  · have e := parse_some h
    subst e
    have e2 : parse num (rcD num (.revoke hs)) = if (PyData.eqv (.int num) (.int num) && intB (.int num)) = true then (if groupB (dHs hs) = true then some (.revoke (intsOf (hs.map .int))) else none) else none := by
      unfold parse rcD dHs
      rfl
    rw [e2] at h
    split at h
    · split at h
      · rename_i h1 h2
        have e3 := Option.some.inj h
        have e4 : intsOf (hs.map .int) = hs := by injection e3
        rw [← e4]
        exact ascInts_len h2 rfl
      · cases h
    · cases h
  · have e := parse_some h
    subst e
    have e2 : parse num (rcD num (.desc hs)) = if (PyData.eqv (.int num) (.int num) && intB (.int num)) = true then (if groupB (dHs hs) = true then some (.desc (intsOf (hs.map .int))) else none) else none := by
      unfold parse rcD dHs
      rfl
    rw [e2] at h
    split at h
    · split at h
      · rename_i h1 h2
        have e3 := Option.some.inj h
        have e4 : intsOf (hs.map .int) = hs := by injection e3
        rw [← e4]
        exact ascInts_len h2 rfl
      · cases h
    · cases h
end J

set_option Elab.async false
set_option linter.all false
set_option maxRecDepth 100000
set_option maxHeartbeats 4000000
namespace J
open PySem L2 PyProof.Rows
/-! ### range(0, n, 8) -/
section
variable {σ : L2.St} {H : Hp} {g : TG} {ts : TS} {D : Ends}
def ForR3 (g : TG) (ts : TS) (D : Ends) (σ : L2.St) (vs : List V) (H : Hp) : Prop :=
  ∃ (i j c : Int) (n : Nat), vs = [.int i, .int j, .int c] ∧ RgC i j c n ∧ ∃ W : Nat → Nat → L2.St → Hp → Prop, (∃ m, W 0 m σ H) ∧ ∀ k m σ H, W k m σ H →
    ((Itc i c n).stop k H ∧ D.nx σ H) ∨ ((Itc i c n).go k H ∧ ∃ N : L2.St → Hp → Prop, (∀ σ' H', N σ' H' → ∃ m', m' < m ∧ W (k + 1) m' σ' H') ∧
      ∀ x H', (Itc i c n).yld k H x H' → Turn g ts D N x σ H')
theorem r_forR3 {ta : TA} (k : ta σ H fun vs H1 => ForR3 g ts D σ vs H1) : tFor (iRng3 ta) g ts D σ H := k
theorem fitsL {x : Int} (h0 : 0 ≤ x) (h1 : x < 1000000) : Builtin.Range.rangeFitsLong x = true := by
  unfold Builtin.Range.rangeFitsLong
  simp only [Bool.and_eq_true, decide_eq_true_iff]
  constructor <;> omega
theorem rg8 {n : Nat} (h : n ≤ 100000) : RgC 0 n 8 ((n + 7) / 8) := by
  have e : Builtin.Range.rangeSize 0 (n : Int) 8 = (((n + 7) / 8 : Nat) : Int) := by
    unfold Builtin.Range.rangeSize
    rw [if_pos (by decide)]
    split
    · omega
    · omega
  refine ⟨by decide, by decide, ?_, e⟩
  unfold Builtin.Range.small
  rw [e, fitsL (x := 0) (by omega) (by omega), fitsL (x := (n : Int)) (by omega) (by omega), fitsL (x := 8) (by omega) (by omega), fitsL (x := (((n + 7) / 8 : Nat) : Int)) (by omega) (by omega), if_pos (by decide), fitsL (by omega) (by omega), Bool.or_true]
  rfl
theorem forR8 {n : Nat} (h : n ≤ 100000) (Pv : Nat → L2.St → Hp → Prop) (h0 : Pv 0 σ H)
    (hs : ∀ (i : Nat) σ H, 8 * i < n → Pv i σ H → Turn g ts D (Pv (i + 1)) (.int ((8 * i : Nat) : Int)) σ H) (hd : ∀ σ H, Pv ((n + 7) / 8) σ H → D.nx σ H) : ForR3 g ts D σ [.int 0, .int n, .int 8] H := by
  refine ⟨0, n, 8, (n + 7) / 8, rfl, rg8 h, fun i m σ H => m = (n + 7) / 8 - i ∧ i ≤ (n + 7) / 8 ∧ Pv i σ H, ⟨_, rfl, Nat.zero_le _, h0⟩, ?_⟩
  rintro i m σ H ⟨rfl, hi, p⟩
  by_cases hlt : i < (n + 7) / 8
  · refine .inr ⟨hlt, Pv (i + 1), fun σ' H' p' => ⟨_, by omega, rfl, hlt, p'⟩, fun x H' y => ?_⟩
    obtain ⟨rfl, rfl⟩ := y
    have e : (0 : Int) + (i : Nat) * 8 = ((8 * i : Nat) : Int) := by omega
    rw [e]
    exact hs i σ _ (by omega) p
  · have e : i = (n + 7) / 8 := by omega
    subst e
    exact .inl ⟨Nat.le_refl _, hd σ H p⟩
end
/-! ### values deeper down -/
mutual
theorem valB_up : ∀ (d : PyData) (k j : Nat), valB d k = true → d.depth + j ≤ 8 → valB d j = true
  | .tuple xs, k, j, h, hd => by
    have h2 : (decide (k < 8) && valsB xs (k + 1)) = true := h
    rw [Bool.and_eq_true, decide_eq_true_iff] at h2
    have e : (PyData.tuple xs).depth = PyData.depthAll xs + 1 := rfl
    rw [e] at hd
    show (decide (j < 8) && valsB xs (j + 1)) = true
    rw [decide_eq_true (by omega), Bool.true_and]
    exact valsB_up xs (k + 1) (j + 1) h2.2 (by omega)
  | .int _, _, _, _, _ => rfl
  | .str _, _, _, _, _ => rfl
  | .none, _, _, h, _ => by simp [valB] at h
  | .bool _, _, _, h, _ => by simp [valB] at h
  | .list _, _, _, h, _ => by simp [valB] at h
  | .dict _, _, _, h, _ => by simp [valB] at h
theorem valsB_up : ∀ (ds : List PyData) (k j : Nat), valsB ds k = true → PyData.depthAll ds + j ≤ 8 + 0 → valsB ds j = true
  | [], _, _, _, _ => rfl
  | x :: xs, k, j, h, hd => by
    have h2 : (valB x k && valsB xs k) = true := h
    rw [Bool.and_eq_true] at h2
    have e : PyData.depthAll (x :: xs) = max x.depth (PyData.depthAll xs) := rfl
    rw [e] at hd
    show (valB x j && valsB xs j) = true
    rw [valB_up x k j h2.1 (by omega), valsB_up xs k j h2.2 (by omega)]; rfl
end
/-- a record of a right value is a right block -/
theorem block_rcD {num : Int} {rc : Rc} (hh : ∀ hs, rc = .revoke hs ∨ rc = .desc hs → hs.length ≤ 1000000) (hv : ∀ v, rc = .copy v → blockB v = true ∧ v.depth ≤ 7) : blockB (rcD num rc) = true := by
  have hiv : ∀ (hs : List Int) (k : Nat), valsB (hs.map .int) k = true := fun hs k => by
    rw [valsB_all, List.all_map]; simp [valB]
  have slm : ∀ hs : List Int, slims (hs.map .int) = true := by
    intro hs
    induction hs with
    | nil => rfl
    | cons a b ih =>
      show (slim (.int a) && slims (b.map .int)) = true
      rw [ih]; rfl
  have grp : ∀ (x : Str) (hs : List Int), PyData.strOk x = true → hs.length ≤ 1000000 → blockB (.tuple [.str x, .int num, dHs hs]) = true := by
    intro x hs hx hl
    unfold blockB
    have e1 : valB (.tuple [.str x, .int num, dHs hs]) 0 = valsB (hs.map .int) 2 := by
      show (decide (0 < 8) && (true && (true && ((decide (1 < 8) && valsB (hs.map .int) 2) && true)))) = _
      simp
    have e2 : slim (.tuple [.str x, .int num, dHs hs]) = (decide ((hs.map PyData.int).length ≤ 1000000) && slims (hs.map .int)) := by
      show (decide (3 ≤ 1000000) && (true && (true && ((decide ((hs.map PyData.int).length ≤ 1000000) && slims (hs.map .int)) && true)))) = _
      simp
    have e3 : (PyData.tuple [.str x, .int num, dHs hs]).canLay0 = (PyData.strOk x && PyData.canLayAll0 (hs.map .int)) := by
      show (PyData.strOk x && (true && (PyData.canLayAll0 (hs.map .int) && true))) = _
      simp
    rw [e1, e2, e3, hiv, slm, layInts, hx, List.length_map, decide_eq_true hl]; rfl
  cases rc with
  | commit =>
    show blockB (.tuple [.str "commit", .int num]) = true
    unfold blockB
    have e3 : (PyData.tuple [.str "commit", .int num]).canLay0 = (PyData.strOk "commit" && true) := rfl
    rw [e3, show PyData.strOk "commit" = true by decide +kernel]; rfl
  | revoke hs => exact grp "revoke" hs (by decide +kernel) (hh hs (.inl rfl))
  | desc hs => exact grp "descriptor" hs (by decide +kernel) (hh hs (.inr rfl))
  | copy v =>
    obtain ⟨h1, h2⟩ := hv v rfl
    show blockB (.tuple [.str "copy", .int num, v]) = true
    unfold blockB
    have e1 : valB (.tuple [.str "copy", .int num, v]) 0 = valB v 1 := by
      show (decide (0 < 8) && (true && (true && (valB v 1 && true)))) = _
      simp
    have e2 : slim (.tuple [.str "copy", .int num, v]) = slim v := by
      show (decide (3 ≤ 1000000) && (true && (true && (slim v && true)))) = _
      simp
    have e3 : (PyData.tuple [.str "copy", .int num, v]).canLay0 = (PyData.strOk "copy" && v.canLay0) := by
      show (PyData.strOk "copy" && (true && (v.canLay0 && true))) = _
      simp
    rw [e1, e2, e3, valB_up v 0 1 (blockB_val h1) (by omega), blockB_slim h1, blockB_lay h1, show PyData.strOk "copy" = true by decide +kernel]; rfl
end J

set_option Elab.async false
set_option linter.all false
set_option maxRecDepth 100000
set_option maxHeartbeats 4000000
namespace J
open PySem L2 PyProof.Rows
/-! ### further rules -/
section
variable {σ : L2.St} {H : Hp} {K : PySem.W.Frag} {Q : VK} {p q : Addr} {xs ys : List V}
/-- what follows a statement is shown once, for all ways out of it -/
theorem r_seqCut {t u : TS} {D : Ends} (W : L2.St → Hp → Prop) (h1 : ∀ σ' H', W σ' H' → u D σ' H') (h2 : (∀ σ' H', W σ' H' → u D σ' H') → t { D with nx := u D } σ H) : tSeq t u D σ H := h2 h1
/-- tuple + tuple -/
theorem r_addT (h1 : SqT K H p xs) (h2 : SqT K H q ys) (c : xs.length + ys.length ≤ sizeLine) (k : ∀ l H', Same H H' → SqT K H' l (xs ++ ys) → Q (.ref l) H') : rAddA K (.ref p) (.ref q) H Q := by
  refine .inr (.inr (.inr ⟨p, q, xs, ys, rfl, rfl, h1, h2, c, fun e => ?_, fun _ e => ?_, fun _ _ l hl => ?_⟩))
  · subst e
    exact k q H (fun _ _ e => e) h2
  · subst e
    exact k p H (fun _ _ e => e) (by rw [List.append_nil]; exact h1)
  · exact k l _ (But.new (S := []) hl).same (SqT.of upd_same)
/-- xs[:-1] -/
theorem cut_last {xs : List V} : cutV xs none (some (-1)) = xs.take (xs.length - 1) := by
  unfold cutV
  rw [HT.sIx_none, List.drop_zero, Nat.sub_zero]
  have e : HT.sIx xs.length xs.length (some (-1)) = xs.length - 1 := by
    show (if (-1 : Int) < 0 then ((-1 : Int) + (xs.length : Int)).toNat else min (-1 : Int).toNat xs.length) = _
    rw [if_pos (by decide)]; omega
  rw [e]
end
/-! ### what data rests on -/
theorem Dn.support {K : PySem.W.Frag} {S : List Addr} {H : Hp} {v : V} {d : PyData} (h : Dn K S H v d) : ∃ SL : List Addr, Live SL H ∧ ∀ (T : List Addr) (H' : Hp), But T H H' → Dj SL T → Dn K [] H' v d := by
  refine Dn.rec (motive_1 := fun v d _ => ∃ SL : List Addr, Live SL H ∧ ∀ (T : List Addr) (H' : Hp), But T H H' → Dj SL T → Dn K [] H' v d)
    (motive_2 := fun vs ds _ => ∃ SL : List Addr, Live SL H ∧ ∀ (T : List Addr) (H' : Hp), But T H H' → Dj SL T → DnAll K [] H' vs ds) ?_ ?_ ?_ ?_ ?_ ?_ ?_ ?_ h
  · exact ⟨[], .nil, fun _ _ _ _ => .non⟩
  · exact fun b => ⟨[], .nil, fun _ _ _ _ => .bl b⟩
  · exact fun i => ⟨[], .nil, fun _ _ _ _ => .int i⟩
  · exact fun x => ⟨[], .nil, fun _ _ _ _ => .str x⟩
  · rintro a xs ds h1 h2 _ ⟨SL, l, k⟩
    exact ⟨a :: SL, .cons h1 l, fun T H' b dj => .lst (b.at h1 (dj a List.mem_cons_self)) List.not_mem_nil (k T H' b fun s hs => dj s (List.mem_cons_of_mem _ hs))⟩
  · rintro a xs ds h1 _ ⟨SL, l, k⟩
    exact ⟨SL, l, fun T H' b dj => .tup (b.sqT h1) (k T H' b dj)⟩
  · exact ⟨[], .nil, fun _ _ _ _ => .nil⟩
  · rintro v vs d ds _ _ ⟨S1, l1, k1⟩ ⟨S2, l2, k2⟩
    refine ⟨S1 ++ S2, fun s hs => (List.mem_append.mp hs).elim (l1 s) (l2 s), fun T H' b dj => .cons (k1 T H' b fun s hs => dj s (List.mem_append_left _ hs)) (k2 T H' b fun s hs => dj s (List.mem_append_right _ hs))⟩
theorem DnAll.support {K : PySem.W.Frag} {S : List Addr} {H : Hp} : ∀ {vs : List V} {ds : List PyData}, DnAll K S H vs ds → ∃ SL : List Addr, Live SL H ∧ ∀ (T : List Addr) (H' : Hp), But T H H' → Dj SL T → DnAll K [] H' vs ds
  | _, _, .nil => ⟨[], .nil, fun _ _ _ _ => .nil⟩
  | _, _, .cons h t => by
    obtain ⟨S1, l1, k1⟩ := h.support
    obtain ⟨S2, l2, k2⟩ := DnAll.support t
    refine ⟨S1 ++ S2, fun s hs => (List.mem_append.mp hs).elim (l1 s) (l2 s), fun T H' b dj => .cons (k1 T H' b fun s hs => dj s (List.mem_append_left _ hs)) (k2 T H' b fun s hs => dj s (List.mem_append_right _ hs))⟩
theorem r_reprOk {K : PySem.W.Frag} {S : List Addr} {H : Hp} {Q : VK} {x : V} {d : PyData} {n k : Nat} (h : Dn K S H x d) (o : Ok n k d) (hk : k ≤ 60) (hn : n ≤ 16777216) (q : Q (.str d.shown) H) : rRepr K [x] H Q :=
  r_repr h.dp o.show_ (Nat.le_trans o.dep hk) (sz (Nat.le_trans o.len hn)) q
end J

set_option Elab.async false
set_option linter.all false
set_option maxRecDepth 100000
set_option maxHeartbeats 4000000
namespace J
open PySem PySem.Spec L2 PyProof.Rows
/-! ### sorted(d), d with int keys -/
def rSortedDI : List V → Hp → VK → Prop := fun xs H Q => ∃ (a : Addr) (kvs : List (L2.Key × V)) (ks : List Int), xs = [.ref a] ∧ H a = some (.dK kvs) ∧ kvs.map (·.1) = ks.map Sum.inl ∧ ks.length < 1000 ∧
    ∀ (ys : List Int) (p : Addr), ys.Perm ks → ys.Pairwise (· ≤ ·) → H p = none → Q (.ref p) (upd H p (.lst (ys.map V.int)))
theorem cr_sortedDI {X : Cx} (hcalm : X.calm = true) : CallR X (.builtin "sorted") rSortedDI := by
  intro pins s σ H xs us Q I r q
  obtain ⟨a, kvs, ks, ex, hd, hks, h64, q⟩ := q
  subst ex
  obtain ⟨u, eu, rx⟩ := vals1 r
  subst eu
  cases rx
  obtain ⟨z, lo, vs, rel, dd⟩ := dk_rd I.hok (.inl hd)
  obtain ⟨ep, hat⟩ := dd.dictAt
  have hkeys : vs.map (·.1) = ks.map Sum.inl := rel.keys.symm.trans hks
  have hl : vs.length = ks.length := by
    have e := congrArg List.length hkeys
    rw [List.length_map, List.length_map] at e
    exact e
  have h16 : vs.length ≤ sizeLine := by rw [hl, sizeLine_eq]; omega
  refine Calls.call_function_entry PyProof.Rows.kind_sorted PyProof.Rows.plain_sorted PyProof.Rows.entry_sorted (PyProof.Rows.args_sorted1 _) ?_
  unfold Builtin.«sorted»
  refine wpAny_bind (m := checkCount "sorted" 1 1 _) (wpAny_pure ?_)
  refine wpAny_bind (PySem.W.kdu_collect (A := X.A.in1) (PySem.W.kdl_dict (knd := mixKind X.prog X.w) (kvs := vs) (ep := ep) lo) (I.ok.hd hcalm) hat h16 fun h' tk acc hk hacc => ?_)
  have hal : acc.toList.length = vs.length := by rw [Array.length_toList, hacc.1]
  have rv0 := keys_at (us := acc.toList) (vs := vs) hal fun j v e => by
    obtain ⟨k, x, e1, e2⟩ := hacc.2 j v (by rw [← Array.getElem?_toList]; exact e)
    exact ⟨k, x, e1, e2⟩
  have ek : (vs.map fun p => kV p.1) = ks.map V.int := by
    have e1 : (vs.map fun p => kV p.1) = (vs.map (·.1)).map kV := by rw [List.map_map]; rfl
    rw [e1, hkeys, List.map_map]; rfl
  rw [ek] at rv0
  have hi := rv0.ints
  have I1 : Inv X pins σ H { s with heap := h', toks := tk } := I.kept hk
  refine wpAny_bind (wpAny_newList ?_ (by rw [hal, hl, sizeLine_eq]; omega))
  have hoL : (h'.push (seqObj "list" acc.toList.toArray 0)).get? h'.objs.size = some (seqObj "list" acc.toList.toArray 0) := Heap.get?_push_size _ rfl
  show wpAny _ _ _ _ _ { s with heap := h'.push (seqObj "list" acc.toList.toArray 0), toks := tk }
  refine wpAny_bind (wpAny_holding (wpAny_call_entry PyProof.Rows.slot_list_sort ⟨_, hoL, rfl⟩ PyProof.Rows.entry_list_sort
    (SrtO.list_sort_ord (s := { s with heap := h'.push (seqObj "list" acc.toList.toArray 0), toks := tk }) SrtO.swo_int hoL (by rw [hal, hl, sizeLine_eq]; omega) (fun h2 => SrtO.ints_sortable hi h2) fun out h1 h2 => ⟨_, rfl, ?_⟩)
    (PyProof.Rows.args_list_sort _)))
  obtain ⟨k1, k2, k3⟩ := SrtO.ints_out hi h1 h2
  obtain ⟨e', he'⟩ := PyProof.Rows.sortedHeap_at (vs := acc.toList) (out := out.toArray) hoL
  have hlen : ((out.map SrtO.iv).map V.int).length ≤ sizeLine := by
    rw [List.length_map, k2.length_eq]
    exact Nat.le_trans (Nat.le_of_lt h64) (by decide)
  refine wpAny_pure ⟨_, rfl, .ref h'.objs.size, upd H h'.objs.size (.lst ((out.map SrtO.iv).map V.int)), I1.laid (t' := tk) (fun b u e => ?_) (Nat.le_refl _)
    (show ObjOk X.prog X.w _ _ h'.objs.size (.lst ((out.map SrtO.iv).map V.int)) from ⟨hlen, out, e', vals_of_ints k1, he'⟩), rfl, q _ _ k2 k3 (I1.hok.fresh (Nat.le_refl _))⟩
  have hb : b < h'.objs.size := Heap.lt_size e
  rw [PyProof.Rows.sortedHeap_old (Nat.ne_of_lt hb) (by rw [size_push']; exact Nat.lt_succ_of_lt hb)]
  exact Heap.get?_push_of_some _ e
theorem pt_dead {X : Cx} {e : Expr} : PT X e (fun _ _ _ => False) := ⟨fun _ _ _ _ _ _ h => h.elim⟩
/-- the kept pending writes -/
def DM.keepW (D : DM) (ns : List Nat) : List (Int × PyData) := ns.map fun i => D.writes.getD i (0, .none)
def DM.crash (D : DM) (ns : List Nat) : DM := ⟨putAll (D.keepW ns) D.safe, putAll (D.keepW ns) D.safe, [], []⟩
end J

set_option Elab.async false
set_option linter.all false
set_option maxRecDepth 100000
set_option maxHeartbeats 4000000
namespace J
open PySem L2 PyProof.Rows
/-! ### comprehensions over range(n), list(range(n)) -/
section
variable {σ : L2.St} {H : Hp} {Q : VK} {g : TG} {tt : TT} {te : TE} {vs : List Nat} {j : Int}
def LcR (g : TG) (tt : TT) (te : TE) (vs : List Nat) (σ : L2.St) (Q : VK) (ws : List V) (H : Hp) : Prop :=
  ∃ j : Int, ws = [.int j] ∧ -(2 ^ 62) ≤ j ∧ j < 2 ^ 62 ∧ LcG (Itr 0 j.toNat) g tt te vs σ Q H
theorem r_lcR {ta : TA} (k : ta σ H fun ws H1 => LcR g tt te vs σ Q ws H1) : tLc (iRng1 ta) g tt te vs σ H Q := k
theorem lcR (b : -(2 ^ 62) ≤ j ∧ j < 2 ^ 62) (mk : ∀ l H0, H l = none → Same H H0 → H0 l = some (.lst []) → ∃ Pv : Nat → Hp → Prop, Pv 0 H0 ∧
      (∀ (i : Nat) H, (i : Int) < j → Pv i H → LTurn g tt te vs l (Pv (i + 1)) (.int i) σ H) ∧ ∀ H, Pv j.toNat H → Q (.ref l) H) : LcR g tt te vs σ Q [.int j] H := by
  refine ⟨j, rfl, b.1, b.2, fun l hl => ?_⟩
  obtain ⟨Pv, h0, h2, h3⟩ := mk l _ hl (But.new (S := []) hl).same upd_same
  refine lc_range Pv h0 (fun i H hi p => ?_) h3
  have e : (0 : Int) + (i : Nat) = (i : Nat) := Int.zero_add _
  rw [e]
  exact h2 i H (by omega) p
theorem r_listRg {ta : TE} (k : ta σ H fun x H1 => ∃ n, x = .int n ∧ RgOk 0 n ∧ ∀ q, H1 q = none → Q (.ref q) (upd H1 q (.lst (rgV 0 n)))) : tLstRg (tRg1 ta) σ H Q := k
theorem r_rgN {n : Nat} (c : n ≤ 16777216) (k : ∀ l H', H l = none → Same H H' → H' l = some (.lst ((List.range n).map fun i : Nat => V.int i)) → Q (.ref l) H') :
    RgOk 0 (n : Int) ∧ ∀ q, H q = none → Q (.ref q) (upd H q (.lst (rgV 0 (n : Int)))) := by
  refine ⟨RgOk.of_le (by omega) (by omega) (by omega) (by omega), fun q hq => ?_⟩
  have e : rgV 0 (n : Int) = (List.range n).map fun i : Nat => V.int i := by
    unfold rgV
    rw [Int.sub_zero, Int.toNat_natCast]
    exact List.map_congr_left fun i _ => by rw [Int.zero_add]
  rw [e]
  exact k q _ hq (But.new (S := []) hq).same upd_same
end
/-! ### a disk as it was -/
def DM.ev (D : DM) : Option (Int × PyData) → DM
  | some u => D.write u.1 u.2
  | none => D.flush
def DM.play (D : DM) (es : List (Option (Int × PyData))) : DM := es.foldl DM.ev D
def DM.after (D : DM) (k : Nat) : DM := DM.play ⟨D.first, D.first, [], []⟩ (D.deeds.take k)
end J

set_option Elab.async false
set_option linter.all false
set_option maxRecDepth 100000
set_option maxHeartbeats 4000000
namespace J
open PySem L2 PyProof.Rows
/-! ### a def of a class, called by the class; exceptions with their own __init__ -/
/-- m, a plain def of the class at the module's name x, keeps the promise -/
structure CFn (P : Program) (w : World) (K : PySem.W.Frag) (mg : Str → Option Value) (base : Heap) (CX : CXT) (k : Nat) (x m : Str) (sp : Sp) : Prop where
  ex : ∃ (C f : Addr) (fd : FuncData) (ps : List Str), FnOk P w K mg base CX k f fd ps sp ∧ mg x = some (.ref C) ∧ ClX.CRead K C (.type "type") ∧ PySem.W.findCls K (.ref C) (.type "type") m = some (.val (.ref f)) ∧
    PySem.W.keepIn K (.ref f) = true ∧ Binds K fd ps []
section
variable {X : Cx} {CX : CXT} {k j : Nat} {sp : Sp} {E : L2.St → XK} {x m : Str} {p p2 pos : Pos} {e : Expr} {es : List Expr} {t : TA}
theorem pe_cfn {pl : Sem Bool} (c : CFn X.prog X.w X.K X.mg X.base CX k x m sp) (hr : Room j X.A) (hk : k ≤ j) (hx : ∀ σ, PassesAt CX X σ (E σ)) (ha : PA X (e :: es) t) (hg : Gl X x := by rfl)
    (hdb : (x == ("__debug__" : Str)) = false := by decide)
    (he : starEach (e :: es) X.env = (false, eval e X.env) :: starEach es X.env := by rfl) (hpl : (backTo pos (starEach es X.env)).any (·.1) = false := by rfl)
    (ht : eval (.Call (.Attribute (.Name x p) m p2) (e :: es) [] pos) X.env = (do
      let ov ← eval (.Name x p) X.env
      standAt p2.atName
      let (f, first) ← holding [ov] (getMethod ov m pl)
      callWith pos f first (backTo pos (starEach (e :: es) X.env)) (backToKw pos (keywordEach [] X.env))) := by rfl) :
    PE X (.Call (.Attribute (.Name x p) m p2) (e :: es) [] pos) (tCallS sp E t) := by
  obtain ⟨C, f, fd, ps, F, hm, rd, fc, kp, hb⟩ := c.ex
  refine ⟨fun pins s σ H Q I h => ?_⟩
  refine PySem.W.methodCall_KW (pl := pl) (ld_glob I hg hm ?_ hdb) ht
  refine PySem.W.method_cls I.kIn rd.ga (PySem.W.cls_value I.kIn rd.rd fc rfl ?_)
  refine PySem.W.callWith_K (h₀ := X.base) (first := []) I.ok.mod.kin kp (thn (ha.run pos pins _ σ H _ (I.tok _) h) fun us s1 ⟨vs, H1, I1, r, q⟩ => ⟨I1.kIn, ?_⟩) he hpl
  exact run_fnS F (hr.mono hk) hb (hx σ) I1 r q
end
/-- a class of exceptions with its own __init__ -/
structure Oex (P : Program) (w : World) (K : PySem.W.Frag) (mg : Str → Option Value) (base : Heap) (k : Nat) (x : Str) (C : Addr) (sp : Sp) : Prop where
  ex : ∃ (f : Addr) (fd : FuncData) (ps : List Str), FnOk P w K mg base CX0 k f fd ps sp ∧ OexC K C ∧ PySem.W.findIn K (.ref C) "__init__" = some (some (.ref f)) ∧ PySem.W.typeIn K (.ref f) = some (.type "function") ∧ mg x = some (.ref C) ∧ Binds K fd ps []
section
variable {X : Cx} {k j : Nat} {sp : Sp} {x : Str} {C : Addr} {p pos : Pos} {e : Expr} {es : List Expr} {ta : TA}
theorem pmk_x (c : Oex X.prog X.w X.K X.mg X.base k x C sp) (hr : Room j X.A) (hk : k + 1 ≤ j) (ha : PA X (e :: es) ta) (hg : Gl X x := by rfl)
    (hdb : (x == ("__debug__" : Str)) = false := by decide) (he : starEach (e :: es) X.env = (false, eval e X.env) :: starEach es X.env := by rfl) (hpl : (backTo pos (starEach es X.env)).any (·.1) = false := by rfl) :
    PMk X (.Call (.Name x p) (e :: es) [] pos) (tMkO C sp [] ta) := by
  obtain ⟨f, fd, ps, F, T, iC, tI, hm, hb⟩ := c.ex
  exact pmk_oex T iC tI F (hr.mono hk) hb .nil (fun _ _ _ _ _ _ _ h => h.elim) hg hm ha hdb he hpl
end
/-- what its __init__ leaves: the fields fs of the arguments -/
def spX (K : PySem.W.Frag) (ns : List Str) (fo : List V → Option (List (Str × V))) : Sp := fun vs H Q _ => ∃ (a C : Addr) (ws : List V) (fs : List (Str × V)), vs = .ref a :: ws ∧ fo ws = some fs ∧ OexC K C ∧ (∀ n ∈ ns, PySem.W.findIn K (.ref C) n = some none) ∧ H a = some (exo a C none) ∧
  ∀ d H', H d = none → d ≠ a → H' a = some (exo a C (some d)) → H' d = some (exd d fs) → (∀ b, b ≠ a → b ≠ d → H' b = H b) → Q .non H'
/-- X(e, ..) that is to be raised -/
def MkX (K : PySem.W.Frag) (ns : List Str) (fo : List V → Option (List (Str × V))) (C : Addr) (vs : List V) (H : Hp) (Q : XK) : Prop := vs.length ≤ 1000 ∧ ∃ fs, fo vs = some fs ∧ OexC K C ∧ (∀ n ∈ ns, PySem.W.findIn K (.ref C) n = some none) ∧
  ∀ d H', H d = none → Same H H' → H' d = some (.xd fs) → Q (.ref C) (some d) H'
def MkO (C : Addr) (sp : Sp) (dvs : List V) (vs : List V) (H1 : Hp) (Q : XK) : Prop := vs.length ≤ 1000 ∧ ∀ a, H1 a = none → sp (.ref a :: (vs ++ dvs)) (upd H1 a (exo a C none))
  (fun v H2 => v = .non ∧ ∃ (d : Addr) (fs : List (Str × V)), H2 a = some (exo a C (some d)) ∧ H2 d = some (exd d fs) ∧ H1 d = none ∧ Q (.ref C) (some d) (upd (del H2 a) d (.xd fs))) (fun _ _ _ => False)
theorem r_mkO {C : Addr} {sp : Sp} {dvs : List V} {ta : TA} {σ : L2.St} {H : Hp} {Q : XK} (k : ta σ H fun vs H1 => MkO C sp dvs vs H1 Q) : tMkO C sp dvs ta σ H Q := k
theorem r_mkX {K : PySem.W.Frag} {ns : List Str} {fo : List V → Option (List (Str × V))} {C : Addr} {vs : List V} {H1 : Hp} {Q : XK} (h : MkX K ns fo C vs H1 Q) : MkO C (spX K ns fo) [] vs H1 Q := by
  obtain ⟨hz, fs, hf, T, hn, q⟩ := h
  refine ⟨hz, fun a ha => ⟨a, C, vs, fs, by rw [List.append_nil], hf, T, hn, upd_same, fun d H' hd hda h1 h2 h3 => ⟨rfl, d, fs, h1, h2, ?_, ?_⟩⟩⟩
  · rw [upd_ne hda] at hd; exact hd
  · have hd1 : H1 d = none := by rw [upd_ne hda] at hd; exact hd
    refine q d _ hd1 (fun b o hb => ?_) upd_same
    have nb : b ≠ d := fun z => by rw [z, hd1] at hb; cases hb
    have na : b ≠ a := fun z => by rw [z, ha] at hb; cases hb
    rw [upd_ne nb, del_ne na, h3 b na nb, upd_ne na]; exact hb
/-- self.f = y in such an __init__ -/
def OstAt (K : PySem.W.Frag) (f : Str) (y x : V) (H2 : Hp) (R : Hp → Prop) : Prop := ∃ a C : Addr, x = .ref a ∧ OexC K C ∧ PySem.W.findIn K (.ref C) f = some none ∧
  ((H2 a = some (exo a C none) ∧ ∀ dx, H2 dx = none → dx ≠ a → R (upd (upd H2 dx (exd dx [(f, y)])) a (exo a C (some dx)))) ∨
    ∃ (dx : Addr) (fs : List (Str × V)), H2 a = some (exo a C (some dx)) ∧ H2 dx = some (exd dx fs) ∧ fs.length ≤ 900 ∧ R (upd H2 dx (exd dx ((f, y) :: fs))))
theorem r_ost {K : PySem.W.Frag} {f : Str} {to te : TE} {D : Ends} {σ : L2.St} {H : Hp} (k : te σ H fun y H1 => to σ H1 fun x H2 => OstAt K f y x H2 fun H3 => D.nx σ H3) : tOst K f to te D σ H := k
def VeAt (K : PySem.W.Frag) (vs : List V) (H1 : Hp) (Q : VK) : Prop := ∃ (a C : Addr) (ws : List V), vs = .ref a :: ws ∧ ws.length ≤ 1000 ∧ OexC K C ∧ H1 a = some (exo a C none) ∧ Q .non H1
theorem r_veI {K : PySem.W.Frag} {ta : TA} {σ : L2.St} {H : Hp} {Q : VK} (k : ta σ H fun vs H1 => VeAt K vs H1 Q) : tVeI K ta σ H Q := k
/-- e.f of the caught exception -/
theorem r_xf {a C : Addr} {d : Addr} {f : Str} {te : TE} {σ : L2.St} {H : Hp} {Q : VK} (k : te σ H fun x H1 => x = .ref a ∧ (.ref C : Value) = .ref C ∧ ∃ (dd : Addr) (fs : List (Str × V)) (v : V), some d = some dd ∧ H1 dd = some (.xd fs) ∧ fs.lookup f = some v ∧ Q v H1) : tXf a (.ref C) (some d) C f te σ H Q := k
theorem r_xfAt {a C d : Addr} {fs : List (Str × V)} {f : Str} {v : V} {H1 : Hp} {Q : VK} (h : H1 d = some (.xd fs)) (l : fs.lookup f = some v) (k : Q v H1) :
    V.ref a = .ref a ∧ (.ref C : Value) = .ref C ∧ ∃ (dd : Addr) (fs : List (Str × V)) (v : V), some d = some dd ∧ H1 dd = some (.xd fs) ∧ fs.lookup f = some v ∧ Q v H1 := ⟨rfl, rfl, d, fs, v, rfl, h, l, k⟩
/-! ### comprehensions over range(0, n, 8) -/
section
variable {σ : L2.St} {H : Hp} {Q : VK} {g : TG} {tt : TT} {te : TE} {vs : List Nat}
def LcR3 (g : TG) (tt : TT) (te : TE) (vs : List Nat) (σ : L2.St) (Q : VK) (ws : List V) (H : Hp) : Prop :=
  ∃ (i j c : Int) (n : Nat), ws = [.int i, .int j, .int c] ∧ RgC i j c n ∧ LcG (Itc i c n) g tt te vs σ Q H
theorem r_lcR3 {ta : TA} (k : ta σ H fun ws H1 => LcR3 g tt te vs σ Q ws H1) : tLc (iRng3 ta) g tt te vs σ H Q := k
theorem lcR8 {n : Nat} (hn : n ≤ 100000) (mk : ∀ l H0, H l = none → Same H H0 → H0 l = some (.lst []) → ∃ Pv : Nat → Hp → Prop, Pv 0 H0 ∧
      (∀ (i : Nat) H, 8 * i < n → Pv i H → LTurn g tt te vs l (Pv (i + 1)) (.int ((8 * i : Nat) : Int)) σ H) ∧ ∀ H, Pv ((n + 7) / 8) H → Q (.ref l) H) : LcR3 g tt te vs σ Q [.int 0, .int n, .int 8] H := by
  refine ⟨0, n, 8, (n + 7) / 8, rfl, rg8 hn, fun l hl => ?_⟩
  obtain ⟨Pv, h0, h2, h3⟩ := mk l _ hl (But.new (S := []) hl).same upd_same
  refine ⟨fun i m H => m = (n + 7) / 8 - i ∧ i ≤ (n + 7) / 8 ∧ Pv i H, ⟨_, rfl, Nat.zero_le _, h0⟩, ?_⟩
  rintro i m H ⟨rfl, hi, p⟩
  by_cases hlt : i < (n + 7) / 8
  · refine .inr ⟨hlt, Pv (i + 1), fun H' p' => ⟨_, by omega, rfl, hlt, p'⟩, fun x H' y => ?_⟩
    obtain ⟨rfl, rfl⟩ := y
    have e : (0 : Int) + (i : Nat) * 8 = ((8 * i : Nat) : Int) := by omega
    rw [e]
    exact h2 i _ (by omega) p
  · have e : i = (n + 7) / 8 := by omega
    subst e
    exact .inl ⟨Nat.le_refl _, h3 H p⟩
end
/-! ### methods that may raise -/
structure MetX (P : Program) (w : World) (K : PySem.W.Frag) (mg : Str → Option Value) (base : Heap) (CX : CXT) (k : Nat) (C : Addr) (m : Str) (sp : Sp) : Prop where
  ex : ∃ (f : Addr) (fd : FuncData) (ps : List Str), Cls K C ∧ Meth K C m f ∧ FnOk P w K mg base CX k f fd ps sp ∧ Binds K fd ps []
/-- o.m(e, ..) -/
def tMethS (C : Addr) (m : Str) (sp : Sp) (E : L2.St → XK) (ta : TE) (t : TA) : TE := fun σ H Q => ta σ H fun x H1 => ∃ a dx fs, x = .ref a ∧ H1 a = some (.ins C dx fs) ∧ fs.lookup m = none ∧ t σ H1 fun vs H2 => sp (x :: vs) H2 Q (E σ)
def MethAtS (C : Addr) (m : Str) (sp : Sp) (E : L2.St → XK) (σ : L2.St) (t : TA) (x : V) (H : Hp) (Q : VK) : Prop := ∃ a dx fs, x = .ref a ∧ H a = some (.ins C dx fs) ∧ fs.lookup m = none ∧ t σ H fun vs H2 => sp (x :: vs) H2 Q (E σ)
theorem r_methS {C : Addr} {m : Str} {sp : Sp} {E : L2.St → XK} {ta : TE} {t : TA} {σ : L2.St} {H : Hp} {Q : VK} (k : ta σ H fun x H1 => MethAtS C m sp E σ t x H1 Q) : tMethS C m sp E ta t σ H Q := k
theorem r_methAtS {C a dx : Addr} {m : Str} {sp : Sp} {E : L2.St → XK} {t : TA} {σ : L2.St} {H : Hp} {Q : VK} {fs : List (Str × V)} (h : H a = some (.ins C dx fs)) (l : fs.lookup m = none) (k : t σ H fun vs H2 => sp (.ref a :: vs) H2 Q (E σ)) : MethAtS C m sp E σ t (.ref a) H Q := ⟨a, dx, fs, rfl, h, l, k⟩
section
variable {X : Cx} {CX : CXT} {k j : Nat} {C : Addr} {m : Str} {sp : Sp} {E : L2.St → XK} {p pos apos : Pos} {e o : Expr} {es : List Expr} {ta : TE} {t : TA}
theorem pe_mx0 {pl : Sem Bool} (c : MetX X.prog X.w X.K X.mg X.base CX k C m sp) (hr : Room j X.A) (hk : k ≤ j) (hx : ∀ σ, PassesAt CX X σ (E σ)) (he : PE X o ta)
    (ht : eval (.Call (.Attribute o m apos) [] [] pos) X.env = (do
      let ov ← eval o X.env
      standAt apos.atName
      let (f, first) ← holding [ov] (getMethod ov m pl)
      callWith pos f first (backTo pos (starEach [] X.env)) (backToKw pos (keywordEach [] X.env))) := by rfl) :
    PE X (.Call (.Attribute o m apos) [] [] pos) (tMethS C m sp E ta tNil) := by
  obtain ⟨f, fd, ps, hc, hm, F, hb⟩ := c.ex
  refine ⟨fun pins s σ H Q I h => ?_⟩
  refine PySem.W.methodCall_KW (pl := pl) (thn (he.run pins s σ H _ I h) fun u s1 ⟨x, H1, I1, rx, a, dx, fs, ex, ea, l, q⟩ => ?_) ht
  subst ex
  obtain rfl : u = Value.ref a := rx
  refine getmeth_ok I1 ea hc hm l ?_
  exact PySem.W.callWith_K0 (first := [.ref a]) I1.kIn hm.kp (run_fnS (us := [.ref a]) (vs := [.ref a]) F (hr.mono hk) hb (hx σ) I1 (.cons rfl .nil) q)
theorem pe_mx {pl : Sem Bool} (c : MetX X.prog X.w X.K X.mg X.base CX k C m sp) (hr : Room j X.A) (hk : k ≤ j) (hx : ∀ σ, PassesAt CX X σ (E σ)) (he : PE X o ta) (ha : PA X (e :: es) t)
    (hst : starEach (e :: es) X.env = (false, eval e X.env) :: starEach es X.env := by rfl) (hpl : (backTo pos (starEach es X.env)).any (·.1) = false := by rfl)
    (ht : eval (.Call (.Attribute o m apos) (e :: es) [] pos) X.env = (do
      let ov ← eval o X.env
      standAt apos.atName
      let (f, first) ← holding [ov] (getMethod ov m pl)
      callWith pos f first (backTo pos (starEach (e :: es) X.env)) (backToKw pos (keywordEach [] X.env))) := by rfl) :
    PE X (.Call (.Attribute o m apos) (e :: es) [] pos) (tMethS C m sp E ta t) := by
  obtain ⟨f, fd, ps, hc, hm, F, hb⟩ := c.ex
  refine ⟨fun pins s σ H Q I h => ?_⟩
  refine PySem.W.methodCall_KW (pl := pl) (thn (he.run pins s σ H _ I h) fun u s1 ⟨x, H1, I1, rx, a, dx, fs, ex, ea, l, q⟩ => ?_) ht
  subst ex
  obtain rfl : u = Value.ref a := rx
  refine getmeth_ok I1 ea hc hm l ?_
  refine PySem.W.callWith_K (first := [.ref a]) (h₀ := X.base) I.ok.mod.kin hm.kp (thn (ha.run pos pins s1 σ H1 _ I1 q) fun us s2 ⟨vs, H2, I2, r, q2⟩ => ⟨I2.kIn, ?_⟩) hst hpl
  exact run_fnS (us := .ref a :: us) (vs := .ref a :: vs) F (hr.mono hk) hb (hx σ) I2 (.cons rfl r) q2
end
end J

set_option Elab.async false
set_option linter.all false
set_option maxRecDepth 100000
set_option maxHeartbeats 4000000
namespace J
open PySem L2 PyProof.Rows
/-! ### dicts from whole numbers to data -/
def getD' (m : List (Int × PyData)) (k : Int) : Option PyData := (m.find? fun q => decide (q.1 = k)).map (·.2)
def hasD (m : List (Int × PyData)) (k : Int) : Bool := m.any fun q => decide (q.1 = k)
def putD (m : List (Int × PyData)) (k : Int) (v : PyData) : List (Int × PyData) :=
  if hasD m k = true then m.map (fun q => if q.1 = k then (q.1, v) else q) else m ++ [(k, v)]
def dropD (m : List (Int × PyData)) (k : Int) : List (Int × PyData) := m.filter fun q => decide (q.1 ≠ k)
inductive KvD (K : PySem.W.Frag) (S : List Addr) (H : Hp) : List (L2.Key × V) → List (Int × PyData) → Prop
  | nil : KvD K S H [] []
  | cons {k : Int} {v : V} {d : PyData} {kvs : List (L2.Key × V)} {m : List (Int × PyData)} (h : Dn K S H v d) (t : KvD K S H kvs m) : KvD K S H ((.inl k, v) :: kvs) ((k, d) :: m)
section
variable {K : PySem.W.Frag} {S S' T : List Addr} {H H' : Hp} {kvs : List (L2.Key × V)} {m : List (Int × PyData)}
theorem KvD.same (s : Same H H') (h : KvD K S H kvs m) : KvD K S H' kvs m := by
  induction h with
  | nil => exact .nil
  | cons h _ ih => exact .cons (h.same s) ih
theorem KvD.nlb (h : KvD K S H kvs m) (n : ∀ c ∈ m, noL c.2 = true) (b : But T H H') : KvD K S' H' kvs m := by
  induction h with
  | nil => exact .nil
  | cons h _ ih => exact .cons (h.nlb (n _ List.mem_cons_self) b) (ih fun c hc => n c (List.mem_cons_of_mem _ hc))
theorem KvD.length (h : KvD K S H kvs m) : kvs.length = m.length := by
  induction h with
  | nil => rfl
  | cons _ _ ih => rw [List.length_cons, List.length_cons, ih]
theorem KvD.keys (h : KvD K S H kvs m) : kvs.map (·.1) = (m.map (·.1)).map Sum.inl := by
  induction h with
  | nil => rfl
  | cons _ _ ih => rw [List.map_cons, List.map_cons, List.map_cons, ih]
theorem KvD.get (h : KvD K S H kvs m) (k : Int) : match getD' m k with
    | none => valV kvs (.inl k) = none
    | some d => ∃ v, valV kvs (.inl k) = some v ∧ Dn K S H v d := by
  induction h with
  | nil => rfl
  | @cons k' v d kvs m h _ ih =>
    by_cases e : k' = k
    · have e1 : getD' ((k', d) :: m) k = some d := by unfold getD'; rw [List.find?_cons_of_pos (by simpa using e)]; rfl
      rw [e1]
      exact ⟨v, valV_pos (p := ((Sum.inl k' : L2.Key), v)) (by rw [e]), h⟩
    · have e1 : getD' ((k', d) :: m) k = getD' m k := by unfold getD'; rw [List.find?_cons_of_neg (by simpa using e)]
      have e2 : valV (((Sum.inl k' : L2.Key), v) :: kvs) (.inl k) = valV kvs (.inl k) := valV_neg (p := ((Sum.inl k' : L2.Key), v)) (fun z => e (Sum.inl.inj z))
      rw [e1, e2]; exact ih
theorem hasD_get (m : List (Int × PyData)) (k : Int) : hasD m k = (getD' m k).isSome := by
  unfold hasD getD'
  induction m with
  | nil => rfl
  | cons q m ih =>
    by_cases e : q.1 = k
    · rw [List.any_cons, List.find?_cons_of_pos (by simpa using e), decide_eq_true e]; rfl
    · rw [List.any_cons, List.find?_cons_of_neg (by simpa using e), decide_eq_false e, Bool.false_or, ih]
theorem KvD.some (h : KvD K S H kvs m) {k : Int} {d : PyData} (e : getD' m k = some d) : ∃ v, valV kvs (.inl k) = some v ∧ Dn K S H v d := by
  have := h.get k
  rw [e] at this; exact this
theorem KvD.none (h : KvD K S H kvs m) {k : Int} (e : getD' m k = none) : valV kvs (.inl k) = none := by
  have := h.get k
  rw [e] at this; exact this
theorem KvD.any (h : KvD K S H kvs m) (k : Int) : (kvs.any fun kv => decide (kv.1 = (.inl k : L2.Key))) = hasD m k := by
  rw [valV_any, hasD_get]
  cases e : getD' m k with
  | none => rw [h.none e]; rfl
  | some d =>
    obtain ⟨v, hv, _⟩ := h.some e
    rw [hv]; rfl
theorem KvD.put (h : KvD K S H kvs m) {k : Int} {v : V} {d : PyData} (hv : Dn K S H v d) : KvD K S H (putK kvs (.inl k) v) (putD m k d) := by
  unfold putK putD
  rw [h.any k]
  split
  · have mp : ∀ {kvs : List (L2.Key × V)} {m : List (Int × PyData)}, KvD K S H kvs m → KvD K S H (kvs.map fun kv => if kv.1 = (.inl k : L2.Key) then (kv.1, v) else kv) (m.map fun q => if q.1 = k then (q.1, d) else q) := by
      intro kvs m h
      induction h with
      | nil => exact .nil
      | @cons k2 v2 d2 kvs m h t ih =>
        rw [List.map_cons, List.map_cons]
        by_cases e : k2 = k
        · rw [if_pos (by rw [e]), if_pos e]; exact .cons hv ih
        · rw [if_neg (fun z => e (Sum.inl.inj z)), if_neg e]; exact .cons h ih
    exact mp h
  · have ap : ∀ {kvs : List (L2.Key × V)} {m : List (Int × PyData)}, KvD K S H kvs m → KvD K S H (kvs ++ [(.inl k, v)]) (m ++ [(k, d)]) := by
      intro kvs m h
      induction h with
      | nil => exact .cons hv .nil
      | cons h _ ih => exact .cons h ih
    exact ap h
theorem KvD.drop (h : KvD K S H kvs m) {k : Int} : KvD K S H (dropK kvs (.inl k)) (dropD m k) := by
  unfold dropK dropD
  induction h with
  | nil => exact .nil
  | @cons k' v' d' kvs m h t ih =>
    by_cases e : k' = k
    · rw [List.filter_cons_of_neg (by rw [e]; simp), List.filter_cons_of_neg (by simpa using e)]; exact ih
    · rw [List.filter_cons_of_pos (by simpa using fun z => e z), List.filter_cons_of_pos (by simpa using e)]; exact .cons h ih
end
theorem putD_length (m : List (Int × PyData)) (k : Int) (v : PyData) : (putD m k v).length ≤ m.length + 1 := by
  unfold putD
  split
  · rw [List.length_map]; omega
  · rw [List.length_append]; exact Nat.le_refl _
theorem putD_mem {m : List (Int × PyData)} {k : Int} {v : PyData} {c : Int × PyData} (h : c ∈ putD m k v) : c ∈ m ∨ c = (k, v) := by
  unfold putD at h
  split at h
  · obtain ⟨q, hq, e⟩ := List.mem_map.mp h
    split at e
    · rename_i hk; right; rw [← e, ← hk]
    · left; rw [← e]; exact hq
  · rcases List.mem_append.mp h with h | h
    · exact .inl h
    · exact .inr (List.mem_singleton.mp h)
theorem putD_keys {m : List (Int × PyData)} {k : Int} {v : PyData} (hm : (m.map (·.1)).Nodup) : ((putD m k v).map (·.1)).Nodup := by
  unfold putD
  split
  · rw [List.map_map]
    have e : ((fun q : Int × PyData => q.1) ∘ fun q => if q.1 = k then (q.1, v) else q) = fun q => q.1 := by
      funext q
      simp only [Function.comp]
      split <;> rfl
    rw [e]; exact hm
  · rename_i h
    rw [List.map_append]
    refine List.nodup_append.mpr ⟨hm, by simp, fun a ha b hb e => h ?_⟩
    rw [List.map_singleton, List.mem_singleton] at hb
    obtain ⟨q, hq, e2⟩ := List.mem_map.mp ha
    unfold hasD
    rw [List.any_eq_true]
    exact ⟨q, hq, decide_eq_true (by rw [e2, e, hb])⟩
theorem dropD_mem {m : List (Int × PyData)} {k : Int} {c : Int × PyData} (h : c ∈ dropD m k) : c ∈ m ∧ c.1 ≠ k := by
  obtain ⟨h1, h2⟩ := List.mem_filter.mp h
  exact ⟨h1, of_decide_eq_true h2⟩
theorem dropD_keys {m : List (Int × PyData)} {k : Int} (hm : (m.map (·.1)).Nodup) : ((dropD m k).map (·.1)).Nodup := hm.sublist ((List.filter_sublist).map _)
theorem getD_mem {m : List (Int × PyData)} {k : Int} {d : PyData} (h : getD' m k = some d) : (k, d) ∈ m := by
  unfold getD' at h
  obtain ⟨q, hq, e⟩ := Option.map_eq_some_iff.mp h
  have h1 := List.find?_some hq
  have h2 := List.mem_of_find?_eq_some hq
  have e1 := of_decide_eq_true h1
  rw [← e1, ← e]; exact h2
/-! ### their rules -/
section
variable {K : PySem.W.Frag} {S : List Addr} {H : Hp} {Q : VK} {a : Addr} {kvs : List (L2.Key × V)} {m : List (Int × PyData)} {k : Int} {v : V}
theorem r_dputD {R : Hp → Prop} (h : H a = some (.dK kvs)) (c : kvs.length < sizeLine) (q : ∀ H', But [a] H H' → H' a = some (.dK (putK kvs (.inl k) v)) → R H') :
    ∃ b H4, V.ref a = .ref b ∧ DPut H b (.int k) v H4 ∧ R H4 :=
  ⟨a, _, rfl, DPut.k (k := .inl k) h c, q _ (But.write h (fun z => z) (by simp)) upd_same⟩
theorem r_clearD (h : H a = some (.dK kvs)) (q : ∀ H', But [a] H H' → H' a = some (.dK []) → Q .non H') : rDClear (.ref a) [] H Q :=
  ⟨a, kvs, rfl, rfl, h, q _ (But.write h (fun z => z) (by simp)) upd_same⟩
end
theorem upd_exK {H : Hp} {a : Addr} {kvs : List (L2.Key × V)} {o' : HO} (h : H a = some (.dK kvs)) : ∃ H', upd H a o' = H' ∧ But [a] H H' ∧ H' a = some o' := ⟨_, rfl, But.write h (fun z => z) (by simp), upd_same⟩
/-- d.pop(k, x) -/
theorem r_dpop2 {td ty tx : TE} {σ : L2.St} {H : Hp} {Q : VK} (k : td σ H fun x H1 => ∃ a, x = .ref a ∧ IsD H1 a ∧ ty σ H1 fun y H2 => tx σ H2 fun z H3 => ∃ kvs k, H3 a = some (.dK kvs) ∧ y = kV k ∧ (∀ v, valV kvs k = some v → Q v (upd H3 a (.dK (dropK kvs k)))) ∧ (valV kvs k = none → Q z H3)) : tDPop2 td ty tx σ H Q := k
/-- d.pop(k) -/
theorem r_dpop1 {td ty : TE} {σ : L2.St} {H : Hp} {Q : VK} (k : td σ H fun x H1 => ∃ a, x = .ref a ∧ IsD H1 a ∧ ty σ H1 fun y H2 => ∃ kvs k v, H2 a = some (.dK kvs) ∧ y = kV k ∧ valV kvs k = some v ∧ Q v (upd H2 a (.dK (dropK kvs k)))) : tDPop1 td ty σ H Q := k
/-- d[k] -/
def DAt (x y : V) (H : Hp) (Q : VK) : Prop := ∃ a v, x = .ref a ∧ DGet H a y (some v) ∧ Q v H
theorem r_dget {td ty : TE} {σ : L2.St} {H : Hp} {Q : VK} (k : td σ H fun x H1 => ty σ H1 fun y H2 => DAt x y H2 Q) : tDGet td ty σ H Q := k
theorem r_dAt {H : Hp} {a : Addr} {kvs : List (L2.Key × V)} {k : Int} {v : V} {Q : VK} (h : H a = some (.dK kvs)) (e : valV kvs (.inl k) = some v) (q : Q v H) : DAt (.ref a) (.int k) H Q := ⟨a, v, rfl, e ▸ DGet.k (k := .inl k) h, q⟩
theorem r_dAtS {H : Hp} {a : Addr} {kvs : List (L2.Key × V)} {k : Str} {v : V} {Q : VK} (h : H a = some (.dK kvs)) (e : valV kvs (.inr k) = some v) (q : Q v H) : DAt (.ref a) (.str k) H Q := ⟨a, v, rfl, e ▸ DGet.k (k := .inr k) h, q⟩
/-- k in d -/
def DInAt (b : Bool) (x y : V) (H : Hp) (Q : VK) : Prop := ∃ a o, x = .ref a ∧ DGet H a y o ∧ Q (.bl (o.isSome != b)) H
theorem r_din {td ty : TE} {σ : L2.St} {H : Hp} {Q : VK} (k : ty σ H fun y H1 => td σ H1 fun x H2 => ∃ a o, x = .ref a ∧ DGet H2 a y o ∧ Q (.bl o.isSome) H2) : tDIn ty td σ H Q := k
theorem r_dnin {td ty : TE} {σ : L2.St} {H : Hp} {Q : VK} (k : ty σ H fun y H1 => td σ H1 fun x H2 => ∃ a o, x = .ref a ∧ DGet H2 a y o ∧ Q (.bl (!o.isSome)) H2) : tDNotIn ty td σ H Q := k
theorem r_dinAt {K : PySem.W.Frag} {S : List Addr} {H : Hp} {a : Addr} {kvs : List (L2.Key × V)} {m : List (Int × PyData)} {k : Int} {R : Bool → Prop} (h : H a = some (.dK kvs)) (hm : KvD K S H kvs m) (q : R (hasD m k)) : ∃ b o, V.ref a = .ref b ∧ DGet H b (.int k) o ∧ R o.isSome := by
  refine ⟨a, _, rfl, DGet.k (k := .inl k) h, ?_⟩
  have e : (valV kvs (.inl k)).isSome = hasD m k := by rw [← valV_any, hm.any k]
  rw [e]; exact q
/-! ### a rule left out: a text or None -/
def ruleV : Option Str → V
  | none => .non
  | some s => .str s
def ruleD : Option Str → PyData
  | none => .none
  | some s => .str s
theorem rule_dn {K : PySem.W.Frag} {S : List Addr} {H : Hp} : ∀ wo, Dn K S H (ruleV wo) (ruleD wo)
  | none => .non
  | some _ => .str _
end J

set_option Elab.async false
set_option linter.all false
set_option maxRecDepth 100000
set_option maxHeartbeats 4000000
namespace J
open PySem L2 PyProof.Rows
/-! ### dicts with text keys; dict == {}; list.remove -/
def rEqDE : R2 := fun x y H Q => ∃ a b kvs, x = .ref a ∧ y = .ref b ∧ H a = some (.dK kvs) ∧ H b = some (.dK []) ∧ Q (.bl kvs.isEmpty) H
theorem op_eqDE {X : Cx} (hu : X.A.units + 64 < cLine) : OpR X (compareOp .Eq) rEqDE := by
  intro pins s σ H x y v u Q I rx ry h
  obtain ⟨a, b, ks, rfl, rfl, ea, eb, q⟩ := h
  obtain rfl : v = Value.ref a := rx
  obtain rfl : u = Value.ref b := ry
  obtain ⟨_, ya, va, ra, da⟩ := (show ObjOk X.prog X.w H s.heap a (.dK ks) from I.hok a _ ea)
  obtain ⟨_, yb, vb, rb, db⟩ := (show ObjOk X.prog X.w H s.heap b (.dK []) from I.hok b _ eb)
  have hl : va.length = ks.length := ra.length.symm
  have hb : vb.length = 0 := rb.length.symm
  refine PySem.W.keq_eq (knd := mixKind X.prog X.w) (r := true) ya yb da db (by omega) (fun e => ?_) ⟨.bl _, H, I, ?_, q⟩
  · have : va = [] := List.length_eq_zero_iff.mp (by omega)
    subst this
    exact .nil
  · show Value.bool _ = Value.bool _
    rw [hl, hb]
    cases ks <;> rfl
theorem r_eqDE {H : Hp} {Q : VK} {a b : Addr} {kvs : List (L2.Key × V)} (h : H a = some (.dK kvs)) (h2 : H b = some (.dK [])) (q : Q (.bl kvs.isEmpty) H) : rEqDE (.ref a) (.ref b) H Q := ⟨a, b, kvs, rfl, rfl, h, h2, q⟩
section
variable {H : Hp} {Q : VK} {σ : L2.St} {trs : List (TE × TE)} {tk tv : TE}
def DispAt (p : Addr) (ps : List (V × V)) (H2 : Hp) (Q : VK) : Prop := H2 p = some (.dK []) ∧ ∃ kvs : List (L2.Key × V), ps = kvs.map (fun kv => (kV kv.1, kv.2)) ∧ kvs.length ≤ 15 ∧ Q (.ref p) (upd H2 p (.dK (mergeK [] kvs)))
theorem r_disp (k : ∀ p H1, H p = none → Same H H1 → H1 p = some (.dK []) → tPairs trs σ H1 fun ps H2 => DispAt p ps H2 Q) : tDisp trs σ H Q := fun p hp => k p _ hp (But.new (S := []) hp).same upd_same
theorem r_pcons {Q : List (V × V) → Hp → Prop} (k : tk σ H fun x H1 => tv σ H1 fun y H2 => tPairs trs σ H2 fun ps H3 => Q ((x, y) :: ps) H3) : tPairs ((tk, tv) :: trs) σ H Q := k
theorem r_pnil {Q : List (V × V) → Hp → Prop} (k : Q [] H) : tPairs [] σ H Q := k
theorem dispAt {p : Addr} {ps : List (V × V)} (kvs : List (L2.Key × V)) (h : H p = some (.dK [])) (e : ps = kvs.map (fun kv => (kV kv.1, kv.2))) (l : kvs.length ≤ 15) (em : mergeK [] kvs = kvs) (q : ∀ H', But [p] H H' → H' p = some (.dK kvs) → Q (.ref p) H') : DispAt p ps H Q :=
  ⟨h, kvs, e, l, by rw [em]; exact q _ (But.write h (fun z => z) (by simp)) upd_same⟩
end
theorem r_dputS {R : Hp → Prop} {H : Hp} {a : Addr} {kvs kvs' : List (L2.Key × V)} {k : Str} {v : V} (h : H a = some (.dK kvs)) (c : kvs.length < sizeLine) (e : putK kvs (.inr k) v = kvs') (q : ∀ H', But [a] H H' → H' a = some (.dK kvs') → R H') :
    ∃ b H4, V.ref a = .ref b ∧ DPut H b (.str k) v H4 ∧ R H4 :=
  ⟨a, _, rfl, DPut.k (k := .inr k) h c, q _ (But.write h (fun z => z) (by simp)) (by rw [upd_same, e])⟩
/-- xs.remove(k) -/
theorem r_rem {H : Hp} {Q : VK} {a : Addr} {ns : List Int} {k : Int} (h : H a = some (.lst (ns.map V.int))) (hk : k ∈ ns) (q : ∀ H', But [a] H H' → H' a = some (.lst ((ns.erase k).map V.int)) → Q .non H') : rRemI (.ref a) [.int k] H Q := by
  refine ⟨a, ns, k, ns.idxOf k, rfl, rfl, h, List.getElem?_eq_some_iff.mpr ⟨List.idxOf_lt_length_of_mem hk, List.getElem_idxOf _⟩, fun m hm e => ?_, ?_⟩
  · have hlt : m < ns.length := (List.getElem?_eq_some_iff.mp e).1
    have e2 := (List.getElem?_eq_some_iff.mp e).2
    have h9 := List.not_of_lt_findIdx (p := (· == k)) hm
    simp [e2] at h9
  · rw [← List.erase_eq_eraseIdx_of_idxOf rfl]
    exact q _ (But.write h (fun z => z) (by simp)) upd_same
theorem okTup2 {n m k : Nat} {d e : PyData} (h : Ok n k d) (h' : Ok m k e) : Ok (n + m + 7) (k + 1) (.tuple [d, e]) := by
  have hn : OkAll (n + m) k [d, e] := .cons (h.mono (by omega) (Nat.le_refl _)) (.cons (h'.mono (by omega) (Nat.le_refl _)) .nil)
  refine ⟨all_lay hn, all_show hn, Nat.succ_le_succ (all_dep hn), ?_⟩
  have h1 := tupleText_le (PyData.shownAll [d, e])
  have h2 : piled (PyData.shownAll [d, e]) ≤ n + 2 + (m + 2) := by
    show piled (d.shown :: e.shown :: []) ≤ _
    rw [piled_cons, piled_cons]
    have := h.len
    have := h'.len
    have e0 : piled [] = 0 := rfl
    omega
  simp only [PyData.shown]
  omega
theorem okTup3 {n m l k : Nat} {d e f : PyData} (h : Ok n k d) (h' : Ok m k e) (h'' : Ok l k f) : Ok (n + m + l + 9) (k + 1) (.tuple [d, e, f]) := by
  have hn : OkAll (n + m + l) k [d, e, f] := .cons (h.mono (by omega) (Nat.le_refl _)) (.cons (h'.mono (by omega) (Nat.le_refl _)) (.cons (h''.mono (by omega) (Nat.le_refl _)) .nil))
  refine ⟨all_lay hn, all_show hn, Nat.succ_le_succ (all_dep hn), ?_⟩
  have h1 := tupleText_le (PyData.shownAll [d, e, f])
  have h2 : piled (PyData.shownAll [d, e, f]) ≤ n + 2 + (m + 2 + (l + 2)) := by
    show piled (d.shown :: e.shown :: f.shown :: []) ≤ _
    rw [piled_cons, piled_cons, piled_cons]
    have := h.len
    have := h'.len
    have := h''.len
    have e0 : piled [] = 0 := rfl
    omega
  simp only [PyData.shown]
  omega
theorem call_sortedL {X : Cx} {K : PySem.W.Frag} (e : X.K = K := by rfl) : CallR X (.builtin "sorted") (rSorted K) := by subst e; exact cr_sorted
/-! ### the law's own dict of a journal, and of a kept transaction -/
section
variable (s h n hd lk dc lr wo ld le x : V)
def mF : List (L2.Key × V) := [(.inr "slots", s), (.inr "homes", h), (.inr "next", n), (.inr "head", hd), (.inr "kept", lk), (.inr "copies", dc), (.inr "revokes", lr), (.inr "rule", wo), (.inr "disk", ld), (.inr "events", le)]
theorem mv_slots : valV (mF s h n hd lk dc lr wo ld le) (.inr "slots") = some s := by with_unfolding_all rfl
theorem mv_homes : valV (mF s h n hd lk dc lr wo ld le) (.inr "homes") = some h := by with_unfolding_all rfl
theorem mv_next : valV (mF s h n hd lk dc lr wo ld le) (.inr "next") = some n := by with_unfolding_all rfl
theorem mv_head : valV (mF s h n hd lk dc lr wo ld le) (.inr "head") = some hd := by with_unfolding_all rfl
theorem mv_kept : valV (mF s h n hd lk dc lr wo ld le) (.inr "kept") = some lk := by with_unfolding_all rfl
theorem mv_copies : valV (mF s h n hd lk dc lr wo ld le) (.inr "copies") = some dc := by with_unfolding_all rfl
theorem mv_revokes : valV (mF s h n hd lk dc lr wo ld le) (.inr "revokes") = some lr := by with_unfolding_all rfl
theorem mv_rule : valV (mF s h n hd lk dc lr wo ld le) (.inr "rule") = some wo := by with_unfolding_all rfl
theorem mv_disk : valV (mF s h n hd lk dc lr wo ld le) (.inr "disk") = some ld := by with_unfolding_all rfl
theorem mv_events : valV (mF s h n hd lk dc lr wo ld le) (.inr "events") = some le := by with_unfolding_all rfl
theorem mp_next : putK (mF s h n hd lk dc lr wo ld le) (.inr "next") x = mF s h x hd lk dc lr wo ld le := by with_unfolding_all rfl
theorem mp_head : putK (mF s h n hd lk dc lr wo ld le) (.inr "head") x = mF s h n x lk dc lr wo ld le := by with_unfolding_all rfl
theorem mp_kept : putK (mF s h n hd lk dc lr wo ld le) (.inr "kept") x = mF s h n hd x dc lr wo ld le := by with_unfolding_all rfl
theorem mp_copies : putK (mF s h n hd lk dc lr wo ld le) (.inr "copies") x = mF s h n hd lk x lr wo ld le := by with_unfolding_all rfl
theorem mp_revokes : putK (mF s h n hd lk dc lr wo ld le) (.inr "revokes") x = mF s h n hd lk dc x wo ld le := by with_unfolding_all rfl
/-- as it is made: its disk and its events come last -/
def mF8 : List (L2.Key × V) := [(.inr "slots", s), (.inr "homes", h), (.inr "next", n), (.inr "head", hd), (.inr "kept", lk), (.inr "copies", dc), (.inr "revokes", lr), (.inr "rule", wo)]
def mF9 : List (L2.Key × V) := [(.inr "slots", s), (.inr "homes", h), (.inr "next", n), (.inr "head", hd), (.inr "kept", lk), (.inr "copies", dc), (.inr "revokes", lr), (.inr "rule", wo), (.inr "disk", ld)]
theorem mp_disk8 : putK (mF8 s h n hd lk dc lr wo) (.inr "disk") x = mF9 s h n hd lk dc lr wo x := by with_unfolding_all rfl
theorem mp_events9 : putK (mF9 s h n hd lk dc lr wo ld) (.inr "events") x = mF s h n hd lk dc lr wo ld x := by with_unfolding_all rfl
theorem mm8 : mergeK [] (mF8 s h n hd lk dc lr wo) = mF8 s h n hd lk dc lr wo := by with_unfolding_all rfl
end
section
variable (n z dc lr s l x : V)
def kF5 : List (L2.Key × V) := [(.inr "number", n), (.inr "size", z), (.inr "copies", dc), (.inr "revokes", lr), (.inr "slot", s)]
def kF : List (L2.Key × V) := [(.inr "number", n), (.inr "size", z), (.inr "copies", dc), (.inr "revokes", lr), (.inr "slot", s), (.inr "left", l)]
theorem kv_number : valV (kF n z dc lr s l) (.inr "number") = some n := by with_unfolding_all rfl
theorem kv_size : valV (kF n z dc lr s l) (.inr "size") = some z := by with_unfolding_all rfl
theorem kv_copies : valV (kF n z dc lr s l) (.inr "copies") = some dc := by with_unfolding_all rfl
theorem kv_revokes : valV (kF n z dc lr s l) (.inr "revokes") = some lr := by with_unfolding_all rfl
theorem kv_slot : valV (kF n z dc lr s l) (.inr "slot") = some s := by with_unfolding_all rfl
theorem kv_left : valV (kF n z dc lr s l) (.inr "left") = some l := by with_unfolding_all rfl
theorem kp_left5 : putK (kF5 n z dc lr s) (.inr "left") x = kF n z dc lr s x := by with_unfolding_all rfl
theorem kp_left : putK (kF n z dc lr s l) (.inr "left") x = kF n z dc lr s x := by with_unfolding_all rfl
theorem km5 : mergeK [] (kF5 n z dc lr s) = kF5 n z dc lr s := by with_unfolding_all rfl
end
end J

set_option Elab.async false
set_option linter.all false
set_option maxRecDepth 100000
set_option maxHeartbeats 4000000
namespace J
open PySem L2 PyProof.Rows
/-! ### list == [] whatever the list holds -/
def rEqLE : R2 := fun x y H Q => ∃ a b xs, x = .ref a ∧ y = .ref b ∧ H a = some (.lst xs) ∧ H b = some (.lst []) ∧ Q (.bl xs.isEmpty) H
def rNeLE : R2 := fun x y H Q => ∃ a b xs, x = .ref a ∧ y = .ref b ∧ H a = some (.lst xs) ∧ H b = some (.lst []) ∧ Q (.bl (!xs.isEmpty)) H
theorem op_eqLE {X : Cx} (hu : X.A.units + 64 < cLine) : OpR X (compareOp .Eq) rEqLE := by
  intro pins s σ H x y v u Q I rx ry h
  obtain ⟨a, b, xs, rfl, rfl, ea, eb, q⟩ := h
  obtain rfl : v = Value.ref a := rx
  obtain rfl : u = Value.ref b := ry
  obtain ⟨_, its, n, r, hl, e⟩ := I.lstM ea
  obtain ⟨_, its2, n2, r2, hl2, e2⟩ := I.lstM eb
  have z2 : its2 = [] := List.length_eq_zero_iff.mp hl2.symm
  subst z2
  have la : s.heap.IsList a its.toArray := ⟨_, e, rfl, n, rfl⟩
  have lb : s.heap.IsList b ([] : List Value).toArray := ⟨_, e2, rfl, n2, rfl⟩
  cases xs with
  | nil =>
    have z1 : its = [] := List.length_eq_zero_iff.mp hl.symm
    subst z1
    exact PySem.SeqAt.RcAt.lists (e := fun _ => true) la lb rfl (by omega) (fun j h1 h2 => absurd h1 (Nat.not_lt_zero _)) _ _ _ _ ⟨.bl true, H, I, rfl, q⟩
  | cons x0 xs0 =>
    exact PySem.SeqAt.RcAt.lists_lengths la lb (by rw [List.size_toArray, List.size_toArray, ← hl]; rfl) (by omega) _ _ _ _ ⟨.bl false, H, I, rfl, q⟩
theorem op_neLE {X : Cx} (hu : X.A.units + 64 < cLine) : OpR X (compareOp .NotEq) rNeLE := by
  intro pins s σ H x y v u Q I rx ry h
  obtain ⟨a, b, xs, rfl, rfl, ea, eb, q⟩ := h
  obtain rfl : v = Value.ref a := rx
  obtain rfl : u = Value.ref b := ry
  obtain ⟨_, its, n, r, hl, e⟩ := I.lstM ea
  obtain ⟨_, its2, n2, r2, hl2, e2⟩ := I.lstM eb
  have z2 : its2 = [] := List.length_eq_zero_iff.mp hl2.symm
  subst z2
  have la : s.heap.IsList a its.toArray := ⟨_, e, rfl, n, rfl⟩
  have lb : s.heap.IsList b ([] : List Value).toArray := ⟨_, e2, rfl, n2, rfl⟩
  cases xs with
  | nil =>
    have z1 : its = [] := List.length_eq_zero_iff.mp hl.symm
    subst z1
    exact PySem.SeqAt.RcNeAt.lists (e := fun _ => true) la lb rfl (by omega) (fun j h1 h2 => absurd h1 (Nat.not_lt_zero _)) _ _ _ _ ⟨.bl false, H, I, rfl, q⟩
  | cons x0 xs0 =>
    exact PySem.SeqAt.RcNeAt.lists_lengths la lb (by rw [List.size_toArray, List.size_toArray, ← hl]; rfl) (by omega) _ _ _ _ ⟨.bl true, H, I, rfl, q⟩
theorem r_eqLE {H : Hp} {Q : VK} {a b : Addr} {xs : List V} (h : H a = some (.lst xs)) (h2 : H b = some (.lst [])) (q : Q (.bl xs.isEmpty) H) : rEqLE (.ref a) (.ref b) H Q := ⟨a, b, xs, rfl, rfl, h, h2, q⟩
theorem r_neLE {H : Hp} {Q : VK} {a b : Addr} {xs : List V} (h : H a = some (.lst xs)) (h2 : H b = some (.lst [])) (q : Q (.bl (!xs.isEmpty)) H) : rNeLE (.ref a) (.ref b) H Q := ⟨a, b, xs, rfl, rfl, h, h2, q⟩
end J

set_option Elab.async false
set_option linter.all false
set_option maxRecDepth 100000
set_option maxHeartbeats 4000000
namespace J
open PySem PySem.Spec L2 L2.DX PyProof.Rows
/-! ### sorted(d.items()), d with int keys and any values -/
def IsPr (h : Heap) (v : Value) (x : Int) : Prop := ∃ (a : Addr) (o : Obj) (t : Tok) (y : Value) (n : Nat), v = .ref a ∧ h.get? a = some o ∧ o.cls = .type "tuple" ∧ o.data = .seq #[.int x t, y] n
theorem IsPr.keeps {h h' : Heap} {v : Value} {x : Int} (p : IsPr h v x) (k : ∀ b o, h.get? b = some o → o.cls = .type "tuple" → h'.get? b = some o) : IsPr h' v x := by
  obtain ⟨a, o, t, u, n, e, ho, hc, hd⟩ := p
  exact ⟨a, o, t, u, n, e, k _ _ ho hc, hc, hd⟩
theorem prFirsts {h : Heap} : ∀ {vs : List Value}, (∀ v ∈ vs, ∃ x, IsPr h v x) → ∃ fs : List Value, PySem.W.KatTups h vs fs ∧ fs.length = vs.length ∧ ∀ f ∈ fs, ∃ x t, f = Value.int x t
  | [], _ => ⟨[], PySem.W.KatTups.nil, rfl, fun _ hm => by simp at hm⟩
  | v :: vs, hp => by
    obtain ⟨fs, h1, h2, h3⟩ := prFirsts (vs := vs) fun v' hm => hp v' (List.mem_cons_of_mem _ hm)
    obtain ⟨x, a, o, t, u, n, e, ho, hc, hd⟩ := hp v List.mem_cons_self
    subst e
    refine ⟨.int x t :: fs, PySem.W.KatTups.cons ho hc hd rfl h1, by rw [List.length_cons, List.length_cons, h2], fun f hm => ?_⟩
    rcases List.mem_cons.mp hm with rfl | hm
    · exact ⟨x, t, rfl⟩
    · exact h3 f hm
theorem swo_int' (k : Value → Int) : SrtO.Swo fun v u => decide (k v < k u) := by
  refine ⟨fun x y h => ?_, fun x y z h1 h2 => ?_⟩
  · have := of_decide_eq_true h
    exact decide_eq_false (by omega)
  · have := of_decide_eq_false h1
    have := of_decide_eq_false h2
    exact decide_eq_false (by omega)
section
variable {prog : Program} {w : World} {A : Around} {s : Shared}
theorem pr_cmp {vs : List Value} {k : Value → Int} (hp : ∀ v ∈ vs, IsPr s.heap v (k v)) (inj : ∀ v ∈ vs, ∀ u ∈ vs, k v = k u → v = u) : SrtO.Cmp prog w A s (PyProof.Rows.tuples' true) (fun p => p.1 ∈ vs) (SrtO.lt2 fun v u => decide (k v < k u)) := by
  intro p q hm hm'
  have h1 := hp _ hm
  have h2 := hp _ hm'
  have hi := inj _ hm _ hm'
  show wpAny (model prog w) A (PyProof.Rows.keyLt' (PyProof.Rows.tuples' true) p.1 q.1) (fun r s' => s' = s ∧ r = decide (k p.1 < k q.1)) (fun _ _ => False) s
  generalize k p.1 = x at h1 hi ⊢
  generalize k q.1 = x' at h2 hi ⊢
  obtain ⟨a, o, t, y, n, e, ho, hc, hd⟩ := h1
  obtain ⟨a', o', t', y', n', e', ho', hc', hd'⟩ := h2
  rw [e, e'] at hi ⊢
  refine PySem.W.kat_lt ho hd ho' hd' ?_
  show PySem.W.KatLex prog w A true (decide (2 < 2)) _ [(.int x t, .int x' t'), (y, y')] 0 s
  refine PySem.W.kat_cons (SeqAt.EqAt.int_int x t x' t' prog w _ _ ?_)
  refine PySem.W.kat_go (fun e1 => ?_) (fun e1 => ?_)
  · have ex : x = x' := by simpa using e1
    have ea := hi ex
    cases ea
    have eo : o = o' := Option.some.inj (ho.symm.trans ho')
    subst eo
    have ed := hd.symm.trans hd'
    have ey : y = y' := by
      have h9 : (#[Value.int x t, y] : Array Value) = #[Value.int x' t', y'] := by injection ed
      have h10 := congrArg Array.toList h9
      simp at h10
      exact h10.2
    subst ey
    refine PySem.W.kat_yes (PySem.W.kat_cons (SeqAt.EqAt.same y prog w _ _ ?_))
    refine PySem.W.kat_yes (PySem.W.kat_nil ⟨rfl, ?_⟩)
    exact (decide_eq_false (by omega)).symm
  · exact PySem.W.kat_no (oneLt_int ⟨rfl, rfl⟩)
theorem pr_sortable {a : Addr} {vs : List Value} {k : Value → Int} (h0 : 0 < vs.length) (hp : ∀ v ∈ vs, IsPr s.heap v (k v)) (inj : ∀ v ∈ vs, ∀ u ∈ vs, k v = k u → v = u) (ha : ∀ o, s.heap.get? a = some o → o.cls ≠ .type "tuple") : SrtO.SortableO prog w A s a vs fun v u => decide (k v < k u) := by
  intro h' keep
  have hp' : ∀ v ∈ vs, IsPr h' v (k v) := fun v hm => (hp v hm).keeps fun b o e c => keep b o (fun z => by subst z; exact ha o e c) e
  obtain ⟨fs, h1, h2, h3⟩ := prFirsts fun v hm => ⟨_, hp' v hm⟩
  refine ⟨PyProof.Rows.tuples' true, fun Q E hq => ?_, pr_cmp hp' inj⟩
  refine PySem.W.kat_kind (T := .type "int") h1 (by omega) (fun f hm => ?_) (by rfl) ?_
  · obtain ⟨x, t, rfl⟩ := h3 f hm
    exact PySem.W.Looks.now
  · have e : (Value.type "int" != Value.type "tuple") = true := by first | decide +kernel | rfl | decide
    rw [e]
    exact hq
end
/-- xs.sort(), pairs with different ints ahead -/
def rSortPr : V → List V → Hp → VK → Prop := fun x xs H Q => ∃ (a : Addr) (ys : List V) (k : V → Int), x = V.ref a ∧ xs = [] ∧ H a = some (.lst ys) ∧ (∀ y ∈ ys, ∃ t z, y = V.ref t ∧ H t = some (.tup [.int (k y), z])) ∧ (∀ y ∈ ys, ∀ z ∈ ys, k y = k z → y = z) ∧
  ∀ zs, zs.Perm ys → (zs.map k).Pairwise (· ≤ ·) → Q .non (upd H a (.lst zs))
section
variable {X : Cx} {K : PySem.W.Frag}
theorem mt_sortPr : MtR X "list.sort" rSortPr := by
  intro pins s σ H x xs v us Q I rx rxs h
  obtain ⟨a, ys, k, rfl, rfl, ha, hx, inj, q⟩ := h
  cases rx
  cases rxs
  obtain ⟨hz, its, n, rv, hob⟩ := I.hok a _ ha
  obtain ⟨e1, e2⟩ := refs_back rv fun x m => by
    obtain ⟨t, _, e, _⟩ := hx x m
    exact ⟨t, e⟩
  have hm1 : ∀ v ∈ its, backV v ∈ ys := fun v hv => by rw [e1]; exact List.mem_map.mpr ⟨_, hv, rfl⟩
  have hp : ∀ v ∈ its, IsPr s.heap v (k (backV v)) := fun v hv => by
    have hm := hm1 v hv
    obtain ⟨t, rfl⟩ := e2 v hv
    obtain ⟨t', z, e, ht⟩ := hx _ hm
    cases e
    obtain ⟨_, its2, r2, o, ho, hc, n, hd⟩ := I.hok _ _ ht
    obtain ⟨u1, u2, rfl, ri, rj⟩ := vals2 r2
    obtain ⟨t1, rfl⟩ := ri
    exact ⟨t, o, t1, u2, n, rfl, ho, hc, hd⟩
  have hij : ∀ v ∈ its, ∀ u ∈ its, k (backV v) = k (backV u) → v = u := fun v hv u hu e => by
    have := inj _ (hm1 v hv) _ (hm1 u hu) e
    obtain ⟨t, rfl⟩ := e2 v hv
    obtain ⟨t', rfl⟩ := e2 u hu
    have e9 : V.ref t = V.ref t' := this
    cases e9; rfl
  refine wpAny_call_entry PyProof.Rows.slot_list_sort ⟨_, hob, rfl⟩ PyProof.Rows.entry_list_sort
    (SrtO.list_sort_ord (swo_int' fun u => k (backV u)) hob (by rw [← rv.length]; exact hz) (fun h2 => pr_sortable (by omega) hp hij fun o e => ?_) fun out h1 h2 => ⟨.none, rfl, ?_⟩) (PyProof.Rows.args_list_sort _)
  · have e' : some o = some (seqObj "list" its.toArray n) := e.symm.trans hob
    cases e'
    intro c
    exact absurd (Value.type.inj c) (by decide)
  · have h3 : ∀ u ∈ out, ∃ a, u = Value.ref a := fun u hu => e2 u (h2.perm.mem_iff.mp hu)
    obtain ⟨ep, he'⟩ := PyProof.Rows.sortedHeap_at (vs := its) (out := out.toArray) hob
    have hperm : (out.map backV).Perm ys := by
      rw [e1]
      exact h2.perm.map _
    have hlen : (out.map backV).length ≤ sizeLine := by
      rw [hperm.length_eq]
      exact hz
    have hup : ((out.map backV).map k).Pairwise (· ≤ ·) := by
      rw [List.map_map]
      exact List.pairwise_map.mpr (h1.imp fun {x y} h => Int.not_lt.mp (of_decide_eq_false (p := k (backV y) < k (backV x)) h))
    refine ⟨.non, upd H a (.lst (out.map backV)), I.write (e := a) (t' := s.toks) (by rw [ha]; trivial) (.inl rfl) (fun b u hb hu => ?_) ⟨_, he'⟩ ⟨hlen, out, ep, vals_back h3, he'⟩, rfl, q _ hperm hup⟩
    rw [PyProof.Rows.sortedHeap_old hb (Heap.lt_size hu)]; exact hu
/-- a tuple of a key and its value -/
def PrAt (H : Hp) (x : V) (q : Int × V) : Prop := ∃ t, x = .ref t ∧ H t = some (.tup [.int q.1, q.2])
def prKV (kvs : List (Int × V)) : List (L2.Key × V) := kvs.map fun q => (.inl q.1, q.2)
def rSortPK (K : PySem.W.Frag) : List V → Hp → VK → Prop := fun vs H Q => ∃ (p a : Addr) (kvs : List (Int × V)), vs = [.ref p] ∧ H p = some (itemsO p a) ∧ H a = some (.dK (prKV kvs)) ∧ (kvs.map (·.1)).Nodup ∧
  ∀ (l : Addr) (zs : List (Int × V)) (ys : List V) (H' : Hp), H l = none → Same H H' → H' l = some (.lst ys) → Paired (PrAt H') ys zs → zs.Perm kvs → (zs.map (·.1)).Pairwise (· ≤ ·) → Q (.ref l) H'
def prK (H : Hp) : V → Int
  | .ref t => match H t with
    | some (.tup [.int i, _]) => i
    | _ => 0
  | _ => 0
def prV (H : Hp) : V → V
  | .ref t => match H t with
    | some (.tup [_, v]) => v
    | _ => .non
  | _ => .non
theorem prK_of {H : Hp} {x : V} {q : Int × V} (h : PrAt H x q) : prK H x = q.1 ∧ prV H x = q.2 := by
  obtain ⟨t, rfl, e⟩ := h
  constructor
  · show (match H t with | some (.tup [.int i, _]) => i | _ => (0 : Int)) = q.1
    rw [e]
  · show (match H t with | some (.tup [_, v]) => v | _ => V.non) = q.2
    rw [e]
theorem pr_paired {H : Hp} : ∀ {ts : List Addr} {kvs : List (Int × V)}, Paired (fun (t : Addr) (q : L2.Key × V) => H t = some (.tup [kV q.1, q.2])) ts (prKV kvs) → Paired (PrAt H) (ts.map V.ref) kvs
  | _, [], .nil => .nil
  | _, _ :: _, .cons h t => .cons ⟨_, rfl, h⟩ (pr_paired t)
theorem pr_maps {H : Hp} : ∀ {xs : List V} {qs : List (Int × V)}, Paired (PrAt H) xs qs → xs.map (prK H) = qs.map (·.1) ∧ xs.map (fun x => (prK H x, prV H x)) = qs ∧ ∀ x ∈ xs, PrAt H x (prK H x, prV H x)
  | _, _, .nil => ⟨rfl, rfl, fun _ h => nomatch h⟩
  | _, _, .cons (a := x) (b := q) h t => by
    obtain ⟨h1, h2, h3⟩ := pr_maps t
    obtain ⟨e1, e2⟩ := prK_of h
    refine ⟨by rw [List.map_cons, List.map_cons, e1, h1], by rw [List.map_cons, e1, e2, h2], fun y hy => ?_⟩
    rcases List.mem_cons.mp hy with e | hy
    · subst e
      rw [e1, e2]; exact h
    · exact h3 y hy
theorem pr_back {H : Hp} : ∀ {zs : List V}, (∀ z ∈ zs, PrAt H z (prK H z, prV H z)) → Paired (PrAt H) zs (zs.map fun z => (prK H z, prV H z))
  | [], _ => .nil
  | z :: zs, h => .cons (h z List.mem_cons_self) (pr_back fun y hy => h y (List.mem_cons_of_mem _ hy))
theorem inj_nodup {α : Type} {f : α → Int} : ∀ {l : List α}, (l.map f).Nodup → ∀ {a b : α}, a ∈ l → b ∈ l → f a = f b → a = b
  | [], _, _, _, h, _, _ => nomatch h
  | x :: l, hn, a, b, ha, hb, e => by
    rw [List.map_cons, List.nodup_cons] at hn
    by_cases h1 : a = x
    · by_cases h2 : b = x
      · rw [h1, h2]
      · have hb2 := (List.mem_cons.mp hb).resolve_left h2
        exact absurd (List.mem_map.mpr ⟨b, hb2, by rw [← e, h1]⟩) hn.1
    · have ha2 := (List.mem_cons.mp ha).resolve_left h1
      by_cases h2 : b = x
      · exact absurd (List.mem_map.mpr ⟨a, ha2, by rw [e, h2]⟩) hn.1
      · exact inj_nodup hn.2 ha2 ((List.mem_cons.mp hb).resolve_left h2) e
theorem cr_sortPK (hc : X.calm = true) (e : X.K = K := by rfl) : CallR X (.builtin "sorted") (rSortPK K) := by
  subst e
  intro pins s σ H xs us Q I r h
  obtain ⟨p, a, kvs, rfl, hp, ha, hnd, k⟩ := h
  obtain rfl := Vals.ref1 r
  have view : s.heap.IsItemsView p a := (show ObjOk X.prog X.w H s.heap p (itemsO p a) from I.hok p _ hp).1
  obtain ⟨hz, hs0, vs, kv, hdo⟩ := I.hok a _ ha
  have lk : (prKV kvs).length = vs.length := Paired.length kv
  obtain ⟨o, es, ep, ho, hx, hdat, hko, hps, hnd'⟩ := hdo
  have les : es.size = vs.length := by rw [← Array.length_toList]; exact hps.length
  have hh : X.A.handled = none := I.ok.hd hc
  refine DT.sortedI (es := es) (ep := ep) hh view ⟨o, ho, hx, hdat⟩ (by omega) fun h' tk as hk hlt hl hM => ?_
  have hG : PySem.W.KdxG (mixKind X.prog X.w) vs s.heap.objs.size h' as := by
    refine ⟨hM.rise, hM.above, fun j b hj => ?_⟩
    obtain ⟨en, he, hg⟩ := hM.pairs j b hj
    rw [← Array.getElem?_toList] at he
    have hjl : j < vs.length := by
      have := (List.getElem?_eq_some_iff.mp hj).1
      omega
    have hv : vs[j]? = some ((vs[j]).1, (vs[j]).2) := List.getElem?_eq_getElem hjl
    obtain ⟨q1, q2⟩ := hps.get? he hv
    exact ⟨en.key, (vs[j]).1, (vs[j]).2, hv, q1, by rw [hg, q2]⟩
  have hpush : ∀ b o, h'.get? b = some o → (h'.push { cls := .type "list", data := .seq (as.map Value.ref).toArray }).get? b = some o := fun b o e => Heap.get?_push_of_some _ e
  obtain ⟨H', k1, k2, k4, k5, J⟩ := items_laid2 (tk := tk) (S := h'.objs.size) I hz kv (fun b o e => hpush _ _ (hk b o e)) (Heap.get?_push_size _ rfl) (Nat.le_of_lt hlt)
    (fun z => Nat.lt_irrefl _ (hG.there z)) (by omega) ⟨hG.rise, hG.above, fun j a e => by
      obtain ⟨key, q, x, f1, f2, f3⟩ := hG.pairs j a e
      exact ⟨key, q, x, f1, f2, hpush _ _ f3⟩⟩
  have pp := pr_paired k5
  obtain ⟨m1, m2, m3⟩ := pr_maps pp
  have inj : ∀ y ∈ as.map V.ref, ∀ z ∈ as.map V.ref, prK H' y = prK H' z → y = z := fun y hy z hz e => by
    have hn : ((as.map V.ref).map (prK H')).Nodup := by rw [m1]; exact hnd
    exact inj_nodup hn hy hz e
  have st := mt_sortPr (X := { X with A := X.A.in1 }) pins _ σ H' (.ref h'.objs.size) [] (.ref h'.objs.size) [] (fun _ H2 => Q (.ref h'.objs.size) H2) (inv_around J _ rfl rfl) rfl .nil
    ⟨_, _, prK H', rfl, rfl, k4, fun y hy => by
      obtain ⟨t, e1, e2⟩ := m3 y hy
      exact ⟨t, _, e1, e2⟩, inj, fun zs h1 h2 => ?_⟩
  · refine wpAny_mono st (fun u s' x => ?_) fun _ _ e => e
    obtain ⟨v, H2, J2, rv, q2⟩ := x
    exact ⟨.ref h'.objs.size, H2, inv_back J2 rfl rfl, rfl, q2⟩
  · have m4 : ∀ y ∈ zs, PrAt H' y (prK H' y, prV H' y) := fun y hy => m3 y (h1.mem_iff.mp hy)
    have mv : ∀ y ∈ zs, PrAt (upd H' h'.objs.size (.lst zs)) y (prK H' y, prV H' y) := fun y hy => by
      obtain ⟨t, e1, e2⟩ := m4 y hy
      have nt : t ≠ h'.objs.size := fun z => by
        rw [z, k4] at e2
        cases e2
      exact ⟨t, e1, by rw [upd_ne nt]; exact e2⟩
    have pz : ∀ {ws : List V}, (∀ y ∈ ws, PrAt (upd H' h'.objs.size (.lst zs)) y (prK H' y, prV H' y)) → Paired (PrAt (upd H' h'.objs.size (.lst zs))) ws (ws.map fun z => (prK H' z, prV H' z)) := fun {ws} => by
      induction ws with
      | nil => exact fun _ => .nil
      | cons z r ih => exact fun h => .cons (h z List.mem_cons_self) (ih fun y hy => h y (List.mem_cons_of_mem _ hy))
    refine k h'.objs.size (zs.map fun z => (prK H' z, prV H' z)) zs _ k2 (fun b o e => ?_) upd_same (pz mv) ?_ ?_
    · rw [upd_ne (ne_of_none e k2)]
      exact k1 b o e
    · rw [← m2]
      exact h1.map _
    · rw [List.map_map]; exact h2
end
/-! ### for x in reversed(xs) -/
section
variable {K : PySem.W.Frag} {g : TG} {ts : TS} {D : Ends} {σ : L2.St} {H : Hp} {a : Addr} {xs : List V}
def ForV (K : PySem.W.Frag) (g : TG) (ts : TS) (D : Ends) (σ : L2.St) (vs : List V) (H : Hp) : Prop :=
  ∃ (a : Addr) (xs : List V), vs = [.ref a] ∧ SqL K H a xs ∧ ∃ W : Nat → Nat → L2.St → Hp → Prop, (∃ m, W 0 m σ H) ∧ ∀ i m σ H, W i m σ H →
    ((Itv K a xs.length).stop i H ∧ D.nx σ H) ∨ ((Itv K a xs.length).go i H ∧ ∃ N : L2.St → Hp → Prop, (∀ σ' H', N σ' H' → ∃ m', m' < m ∧ W (i + 1) m' σ' H') ∧
      ∀ x H', (Itv K a xs.length).yld i H x H' → J.Turn g ts D N x σ H')
theorem r_forV {ta : TA} (k : ta σ H fun vs H1 => ForV K g ts D σ vs H1) : tFor (iRev K ta) g ts D σ H := k
theorem forV (h : SqL K H a xs) (Pv : Nat → L2.St → Hp → Prop) (h0 : Pv 0 σ H) (hl : ∀ i σ H, i ≤ xs.length → Pv i σ H → SqL K H a xs)
    (hs : ∀ i x σ H, xs[xs.length - 1 - i]? = some x → i < xs.length → Pv i σ H → J.Turn g ts D (Pv (i + 1)) x σ H) (hd : ∀ σ H, Pv xs.length σ H → D.nx σ H) : ForV K g ts D σ [.ref a] H := by
  refine ⟨a, xs, rfl, h, fun i m σ H => m = xs.length - i ∧ i ≤ xs.length ∧ Pv i σ H, ⟨_, rfl, Nat.zero_le _, h0⟩, ?_⟩
  rintro i m σ H ⟨rfl, hi, p⟩
  have q := hl i σ H hi p
  by_cases hlt : i < xs.length
  · have hj : xs.length - 1 - i < xs.length := by omega
    refine .inr ⟨⟨hlt, xs, xs[xs.length - 1 - i], q, List.getElem?_eq_getElem hj⟩, Pv (i + 1), fun σ' H' p' => ⟨xs.length - (i + 1), by omega, rfl, hlt, p'⟩, fun x H' y => ?_⟩
    obtain ⟨rfl, e⟩ := y
    exact hs i x σ _ (e xs q) hlt p
  · have e : i = xs.length := by omega
    subst e
    exact .inl ⟨Nat.le_refl _, hd σ H p⟩
end
end J

set_option Elab.async false
set_option linter.all false
set_option maxRecDepth 100000
set_option maxHeartbeats 4000000
namespace J
open PySem PySem.Spec L2 L2.DX PyProof.Rows
/-! ### sorted(d.items()), that the keys differ is told behind it -/
def rSortPN (K : PySem.W.Frag) : List V → Hp → VK → Prop := fun vs H Q => ∃ (p a : Addr) (kvs : List (Int × V)), vs = [.ref p] ∧ H p = some (itemsO p a) ∧ H a = some (.dK (prKV kvs)) ∧
  ∀ (l : Addr) (zs : List (Int × V)) (ys : List V) (H' : Hp), H l = none → Same H H' → H' l = some (.lst ys) → Paired (PrAt H') ys zs → zs.Perm kvs → (zs.map (·.1)).Pairwise (· ≤ ·) → (kvs.map (·.1)).Nodup → Q (.ref l) H'
theorem kv_keys : ∀ {a : List (L2.Key × V)} {b : List (L2.Key × Value)}, KV a b → a.map (·.1) = b.map (·.1)
  | [], [], .nil => rfl
  | _ :: _, _ :: _, .cons h t => by rw [List.map_cons, List.map_cons, h.1, kv_keys t]
section
variable {X : Cx} {K : PySem.W.Frag}
theorem cr_sortPN (hc : X.calm = true) (e : X.K = K := by rfl) : CallR X (.builtin "sorted") (rSortPN K) := by
  subst e
  intro pins s σ H xs us Q I r h
  obtain ⟨p, a, kvs, rfl, hp, ha, k⟩ := h
  obtain rfl := Vals.ref1 r
  have view : s.heap.IsItemsView p a := (show ObjOk X.prog X.w H s.heap p (itemsO p a) from I.hok p _ hp).1
  obtain ⟨hz, hs0, vs, kv, hdo⟩ := I.hok a _ ha
  have lk : (prKV kvs).length = vs.length := Paired.length kv
  obtain ⟨o, es, ep, ho, hx, hdat, hko, hps, hnd'⟩ := hdo
  have hnd : (kvs.map (·.1)).Nodup := by
    have e : (prKV kvs).map (·.1) = (kvs.map (·.1)).map Sum.inl := by
      unfold prKV
      rw [List.map_map, List.map_map]; rfl
    have hn := hnd'
    rw [← kv_keys kv, e] at hn
    exact (List.pairwise_map.mp hn).imp fun h z => h (congrArg Sum.inl z)
  have les : es.size = vs.length := by rw [← Array.length_toList]; exact hps.length
  have hh : X.A.handled = none := I.ok.hd hc
  refine DT.sortedI (es := es) (ep := ep) hh view ⟨o, ho, hx, hdat⟩ (by omega) fun h' tk as hk hlt hl hM => ?_
  have hG : PySem.W.KdxG (mixKind X.prog X.w) vs s.heap.objs.size h' as := by
    refine ⟨hM.rise, hM.above, fun j b hj => ?_⟩
    obtain ⟨en, he, hg⟩ := hM.pairs j b hj
    rw [← Array.getElem?_toList] at he
    have hjl : j < vs.length := by
      have := (List.getElem?_eq_some_iff.mp hj).1
      omega
    have hv : vs[j]? = some ((vs[j]).1, (vs[j]).2) := List.getElem?_eq_getElem hjl
    obtain ⟨q1, q2⟩ := hps.get? he hv
    exact ⟨en.key, (vs[j]).1, (vs[j]).2, hv, q1, by rw [hg, q2]⟩
  have hpush : ∀ b o, h'.get? b = some o → (h'.push { cls := .type "list", data := .seq (as.map Value.ref).toArray }).get? b = some o := fun b o e => Heap.get?_push_of_some _ e
  obtain ⟨H', k1, k2, k4, k5, J⟩ := items_laid2 (tk := tk) (S := h'.objs.size) I hz kv (fun b o e => hpush _ _ (hk b o e)) (Heap.get?_push_size _ rfl) (Nat.le_of_lt hlt)
    (fun z => Nat.lt_irrefl _ (hG.there z)) (by omega) ⟨hG.rise, hG.above, fun j a e => by
      obtain ⟨key, q, x, f1, f2, f3⟩ := hG.pairs j a e
      exact ⟨key, q, x, f1, f2, hpush _ _ f3⟩⟩
  have pp := pr_paired k5
  obtain ⟨m1, m2, m3⟩ := pr_maps pp
  have inj : ∀ y ∈ as.map V.ref, ∀ z ∈ as.map V.ref, prK H' y = prK H' z → y = z := fun y hy z hz e => by
    have hn : ((as.map V.ref).map (prK H')).Nodup := by rw [m1]; exact hnd
    exact inj_nodup hn hy hz e
  have st := mt_sortPr (X := { X with A := X.A.in1 }) pins _ σ H' (.ref h'.objs.size) [] (.ref h'.objs.size) [] (fun _ H2 => Q (.ref h'.objs.size) H2) (inv_around J _ rfl rfl) rfl .nil
    ⟨_, _, prK H', rfl, rfl, k4, fun y hy => by
      obtain ⟨t, e1, e2⟩ := m3 y hy
      exact ⟨t, _, e1, e2⟩, inj, fun zs h1 h2 => ?_⟩
  · refine wpAny_mono st (fun u s' x => ?_) fun _ _ e => e
    obtain ⟨v, H2, J2, rv, q2⟩ := x
    exact ⟨.ref h'.objs.size, H2, inv_back J2 rfl rfl, rfl, q2⟩
  · have m4 : ∀ y ∈ zs, PrAt H' y (prK H' y, prV H' y) := fun y hy => m3 y (h1.mem_iff.mp hy)
    have mv : ∀ y ∈ zs, PrAt (upd H' h'.objs.size (.lst zs)) y (prK H' y, prV H' y) := fun y hy => by
      obtain ⟨t, e1, e2⟩ := m4 y hy
      have nt : t ≠ h'.objs.size := fun z => by
        rw [z, k4] at e2
        cases e2
      exact ⟨t, e1, by rw [upd_ne nt]; exact e2⟩
    have pz : ∀ {ws : List V}, (∀ y ∈ ws, PrAt (upd H' h'.objs.size (.lst zs)) y (prK H' y, prV H' y)) → Paired (PrAt (upd H' h'.objs.size (.lst zs))) ws (ws.map fun z => (prK H' z, prV H' z)) := fun {ws} => by
      induction ws with
      | nil => exact fun _ => .nil
      | cons z r ih => exact fun h => .cons (h z List.mem_cons_self) (ih fun y hy => h y (List.mem_cons_of_mem _ hy))
    refine k h'.objs.size (zs.map fun z => (prK H' z, prV H' z)) zs _ k2 (fun b o e => ?_) upd_same (pz mv) ?_ ?_ hnd
    · rw [upd_ne (ne_of_none e k2)]
      exact k1 b o e
    · rw [← m2]
      exact h1.map _
    · rw [List.map_map]; exact h2
end
end J

set_option Elab.async false
set_option linter.all false
set_option maxRecDepth 100000
set_option maxHeartbeats 4000000
namespace J
open PySem PySem.Spec L2 L2.DX PyProof.Rows
/-! ### for k in d, the dict locked meanwhile -/
def FrD (D : Ends) (d : Addr) (o : Obj) (u : HO) : Ends := ⟨fun σ' H' => H' d = some (.frz o u) ∧ D.nx σ' (upd H' d u), fun v H' => H' d = some (.frz o u) ∧ D.rt v (upd H' d u), fun σ' H' => H' d = some (.frz o u) ∧ D.bk σ' (upd H' d u), fun σ' H' => H' d = some (.frz o u) ∧ D.ct σ' (upd H' d u)⟩
def OverI (J : It) (g : TG) (ts : TS) (Df : Ends) (σ : L2.St) (H1 : Hp) : Prop := ∃ W : Nat → Nat → L2.St → Hp → Prop, (∃ m, W 0 m σ H1) ∧ ∀ i m σ H, W i m σ H →
  (J.stop i H ∧ Df.nx σ H) ∨ (J.go i H ∧ ∃ N : L2.St → Hp → Prop, (∀ σ' H', N σ' H' → ∃ m', m' < m ∧ W (i + 1) m' σ' H') ∧ ∀ x H', J.yld i H x H' → g x σ H' fun σ2 H2 => ts { Df with nx := N, ct := N, bk := Df.nx } σ2 H2)
def KeysX (g : TG) (ts : TS) (Df : Ends) (σ : L2.St) (x : V) (H1 : Hp) : Prop := ∃ d o, x = .ref d ∧ ((∃ kvs, H1 d = some (.frz o (.dK kvs)) ∧ OverI (Itk d o kvs) g ts Df σ H1) ∨ ∃ kvs, H1 d = some (.frz o (.dT kvs)) ∧ OverI (Itkt d o kvs) g ts Df σ H1)
section
variable {K : PySem.W.Frag} {g : TG} {ts : TS} {D Df : Ends} {σ : L2.St} {H : Hp} {d : Addr} {kvs : List (L2.Key × V)} {td : TE}
theorem r_forK (hd : H d = some (.dK kvs)) (k : ∀ o H0, H0 d = some (.frz o (.dK kvs)) → (∀ b, b ≠ d → H0 b = H b) → td σ H0 fun x H1 => KeysX g ts (FrD D d o (.dK kvs)) σ x H1) : tLock (tFor (iKeys td) g ts) D σ H :=
  ⟨d, .dK kvs, hd, trivial, fun od => k od _ upd_same (fun b n => upd_ne n)⟩
theorem forK {o : Obj} (h : H d = some (.frz o (.dK kvs))) (Pv : Nat → L2.St → Hp → Prop) (h0 : Pv 0 σ H) (hl : ∀ i σ H, i ≤ kvs.length → Pv i σ H → H d = some (.frz o (.dK kvs)))
    (hs : ∀ Df i k v σ H, kvs[i]? = some (k, v) → Pv i σ H → J.Turn g ts Df (Pv (i + 1)) (kV k) σ H) (hd : ∀ σ H, Pv kvs.length σ H → D.nx σ (upd H d (.dK kvs))) : KeysX g ts (FrD D d o (.dK kvs)) σ (.ref d) H := by
  refine ⟨d, o, rfl, .inl ⟨kvs, h, fun i m σ H => m = kvs.length - i ∧ i ≤ kvs.length ∧ Pv i σ H, ⟨_, rfl, Nat.zero_le _, h0⟩, ?_⟩⟩
  rintro i m σ H ⟨rfl, hi, p⟩
  have q := hl i σ H hi p
  by_cases hlt : i < kvs.length
  · refine .inr ⟨⟨q, hlt⟩, Pv (i + 1), fun σ' H' p' => ⟨kvs.length - (i + 1), by omega, rfl, hlt, p'⟩, fun x H' y => ?_⟩
    obtain ⟨rfl, k, v, e, rfl⟩ := y
    exact hs _ i k v σ _ e p
  · have e : i = kvs.length := by omega
    subst e
    exact .inl ⟨⟨q, Nat.le_refl _⟩, q, hd σ H p⟩
/-- the frame about a locked dict -/
theorem but_lock {S : List Addr} {H0 H' : Hp} {o : Obj} (hd : H d = some (.dK kvs)) (h0 : H0 d = some (.frz o (.dK kvs))) (he : ∀ b, b ≠ d → H0 b = H b) (b : But S H0 H') : But S H (upd H' d (.dK kvs)) := by
  refine ⟨fun x ox e n => ?_, fun x ox e i => ?_, fun x e => ?_⟩
  · by_cases hx : x = d
    · subst hx
      rw [upd_same, ← hd]; exact e
    · rw [upd_ne hx]
      exact b.keep x ox (by rw [he x hx]; exact e) n
  · by_cases hx : x = d
    · subst hx
      rw [hd] at e
      cases e
      exact absurd i id
    · rw [upd_ne hx]
      exact b.imm x ox (by rw [he x hx]; exact e) i
  · by_cases hx : x = d
    · subst hx
      rw [upd_same]; exact fun z => nomatch z
    · rw [upd_ne hx]
      exact b.live x (by rw [he x hx]; exact e)
/-- what stands off the locked dict -/
theorem DGet.fz {H0 : Hp} {o : Obj} {k : L2.Key} (h : H0 d = some (.frz o (.dK kvs))) : DGet H0 d (kV k) (valV kvs k) := .inl ⟨kvs, k, .inr ⟨o, h⟩, rfl, rfl⟩
theorem r_dAtF {H0 : Hp} {o : Obj} {k : Int} {v : V} {Q : VK} (h : H0 d = some (.frz o (.dK kvs))) (e : valV kvs (.inl k) = some v) (q : Q v H0) : DAt (.ref d) (.int k) H0 Q := ⟨d, v, rfl, e ▸ DGet.fz (k := .inl k) h, q⟩
end
/-- o.m(), its frag told (for a comprehension's element) -/
theorem pe_bm0A {X : Cx} {K : PySem.W.Frag} {T name id : String} {o : Expr} {apos cpos : Pos} {to : TE} {r : V → List V → Hp → VK → Prop} (e : X.K = K) (pa : PlainAttrs T) (slot : Slot T name id) (hty : typeOf (.builtin id) = pure (.type "method_descriptor")) (hm : MtR X id r) (ho : PE X o to)
    (hbase : attributeBase o name X.env (eval o X.env) = eval o X.env := by rfl) (hline : (apos.endLine == cpos.line) = true := by rfl) : PE X (.Call (.Attribute o name apos) [] [] cpos) (tBM0 K T r to) := by
  subst e
  exact pe_bm0 pa slot hty hm ho hbase hline
end J

set_option Elab.async false
set_option linter.all false
set_option maxRecDepth 100000
set_option maxHeartbeats 4000000
namespace J
open PySem PySem.Spec L2 PyProof.Rows
/-! ### max(d), d with int keys -/
def rMaxDI : List V → Hp → VK → Prop := fun xs H Q => ∃ (a : Addr) (kvs : List (L2.Key × V)) (ks : List Int), xs = [.ref a] ∧ H a = some (.dK kvs) ∧ kvs.map (·.1) = ks.map Sum.inl ∧ 0 < ks.length ∧ ∀ m, m ∈ ks → (∀ y, y ∈ ks → y ≤ m) → Q (.int m) H
theorem cr_maxDI {X : Cx} (hc : X.calm = true) : CallR X (.builtin "max") rMaxDI := by
  intro pins s σ H xs us Q I r q
  obtain ⟨a, kvs, ks, ex, hd, hks, hne, q⟩ := q
  subst ex
  obtain ⟨u, eu, rx⟩ := vals1 r
  subst eu
  cases rx
  obtain ⟨z, lo, vs, rel, dd⟩ := dk_rd I.hok (.inl hd)
  obtain ⟨ep, hat⟩ := dd.dictAt
  have hkeys : vs.map (·.1) = ks.map Sum.inl := rel.keys.symm.trans hks
  have hl : vs.length = ks.length := by
    have e := congrArg List.length hkeys
    rw [List.length_map, List.length_map] at e
    exact e
  have ha : a < s.heap.objs.size := hat.lt_size
  have hP : ∀ (i : Nat) (v : Value), (∃ k x, vs[i]? = some (k, x) ∧ (mixKind X.prog X.w).is k v = true) → ∃ t, v = .int (ks.getD i 0) t := by
    rintro i v ⟨k, x, hx, hk⟩
    have h1 : (vs.map (·.1))[i]? = some k := by rw [List.getElem?_map, hx]; rfl
    rw [hkeys, List.getElem?_map] at h1
    obtain ⟨n, hn, rfl⟩ := Option.map_eq_some_iff.mp h1
    have e3 : ks.getD i 0 = n := by rw [List.getD_eq_getElem?_getD, hn]; rfl
    rw [e3]
    exact relV_key (show keyIs (Sum.inl n) v = true from hk)
  refine call_max_walk ?_
  refine wpAny_pyIter_dict lo hat ?_
  refine ⟨s.heap.objs.size, _, _, vs.length, _, _, fun i j => decide (ks.getD i 0 > ks.getD j 0), rfl, Walks.dictKeys (A := X.A.in1) (knd := mixKind X.prog X.w) (show X.A.in1.handled = none from I.ok.hd hc) s.heap.objs.size a (Nat.ne_of_lt ha) vs ep, ⟨⟨_, Heap.get?_push_size _ rfl, rfl, rfl⟩, hat.push _⟩, fun b hb => ?_, by omega, CmpOf.ints_gt (fun i => ks.getD i 0) hP, fun v h' tk hv hk => ?_⟩
  · show b < (s.heap.push _).objs.size
    rw [size_push']
    rcases List.mem_cons.mp hb with z | z
    · rw [z]
      exact Nat.lt_succ_self _
    · rw [List.mem_singleton.mp z]
      exact Nat.lt_succ_of_lt ha
  · obtain ⟨t, rfl⟩ := hP _ _ hv
    obtain ⟨m1', m2'⟩ := argBest_gt (fun i => ks.getD i 0) (vs.length - 1)
    have m1 : argBest (fun i j => decide (ks.getD i 0 > ks.getD j 0)) (vs.length - 1) ≤ vs.length - 1 := m1'
    have m2 : ∀ j, j ≤ vs.length - 1 → ks.getD j 0 ≤ ks.getD (argBest (fun i j => decide (ks.getD i 0 > ks.getD j 0)) (vs.length - 1)) 0 := m2'
    have hk2 : ∀ b o, s.heap.get? b = some o → h'.get? b = some o := fun b o e => hk b o (fun z => by rw [List.mem_singleton.mp z] at e; exact absurd (Heap.lt_size e) (Nat.lt_irrefl _)) (Heap.get?_push_of_some _ e)
    refine ⟨.int _, H, I.kept (t' := tk) hk2, ⟨t, rfl⟩, q _ (PySem.getD_mem (by omega)) fun y hy => ?_⟩
    obtain ⟨j, hj, e⟩ := List.mem_iff_getElem.mp hy
    have z := m2 j (by omega)
    have e3 : ks.getD j 0 = y := by rw [List.getD_eq_getElem?_getD, List.getElem?_eq_getElem hj, ← e] <;> rfl
    rw [e3] at z
    exact z
end J

set_option Elab.async false
set_option linter.all false
set_option maxRecDepth 100000
set_option maxHeartbeats 4000000
namespace J
open PySem PySem.Spec L2 PyProof.Rows
/-! ### isinstance(e, C), e.f of a caught exception, its class told where it is read -/
def DictAt (H : Hp) (d : Option Addr) : Prop := ∀ dd, d = some dd → ∃ fs, H dd = some (.xd fs)
def rIsX (K : PySem.W.Frag) (cls : Value) (d : Option Addr) (a : Addr) : List V → Hp → VK → Prop := fun xs H Q => ∃ (D : Addr) (c : V) (cv : Value) (b : Bool), cls = .ref D ∧ ExcC K D ∧ xs = [.ref a, c] ∧ DictAt H d ∧ (∀ u, RelV c u → u = cv) ∧ PySem.W.kitOne K (.ref D) cv = some b ∧ Q (.bl b) H
theorem call_isX {X : Cx} {K : PySem.W.Frag} {a : Addr} {cls : Value} {oe : Obj} {d : Option Addr} (hp : (a, oe) ∈ X.pn) (hz : Zc cls d oe) (hf : ∃ vs, oe.data = .fields vs) (eK : X.K = K := by rfl) : CallR X (.builtin "isinstance") (rIsX K cls d a) := by
  subst eK
  intro pins s σ H xs us Q I r h
  obtain ⟨D, c, cv, b, rfl, C, rfl, hd, hcv, e, q⟩ := h
  cases r with
  | cons rx rr =>
    cases rr with
    | cons rt rr =>
      cases rr
      cases rx
      have ec := hcv _ rt
      subst ec
      obtain ⟨hget, _⟩ := I.pin (a, oe) (List.mem_append.mpr (.inl hp))
      obtain ⟨vs, hv⟩ := hf
      have J : ∃ od : Option Obj, PySem.W.InstAt s.heap a oe D od := by
        obtain ⟨oc, odd, oda, osl⟩ := oe
        obtain ⟨h1, h2⟩ := hz
        dsimp only at h1 h2 hv
        subst h1 h2 hv
        cases odd with
        | none => exact ⟨none, hget, rfl, rfl, trivial⟩
        | some dd =>
          obtain ⟨fs, hfs⟩ := hd dd rfl
          have hx : ObjOk X.prog X.w H s.heap dd (.xd fs) := I.hok dd _ hfs
          obtain ⟨mA, hns, hr⟩ := hx
          obtain ⟨od, ho, hl⟩ := lookIn_ns hns
          exact ⟨some od, hget, rfl, rfl, ho⟩
      obtain ⟨od, J⟩ := J
      obtain ⟨cd, hc, _⟩ := PySem.W.any_some C.hd
      exact PySem.W.kia_one (PySem.W.kitx_exc (by rw [hc]; rfl) C.hg C.hk C.hs C.ha C.hn C.ht C.hm) I.kIn J e (fun z => nomatch z) fun tk => ⟨.bl b, H, I.kept (t' := tk) fun _ _ z => z, rfl, q⟩
/-- e.f -/
def tXf2 (K : PySem.W.Frag) (a : Addr) (cls : Value) (d : Option Addr) (f : Str) (te : TE) : TE := fun σ H Q => te σ H fun x H1 => x = .ref a ∧ ∃ (C dd : Addr) (fs : List (Str × V)) (v : V), cls = .ref C ∧ XfC K C ∧ PySem.W.findIn K (.ref C) f = some none ∧ d = some dd ∧ H1 dd = some (.xd fs) ∧ fs.lookup f = some v ∧ Q v H1
theorem pe_xf2 {X : Cx} {K : PySem.W.Frag} {a : Addr} {oe : Obj} {cls : Value} {d : Option Addr} {e : Expr} {te : TE} {pos : Pos} {n : Str} (hp : (a, oe) ∈ X.pn)
    (hz : Zc cls d oe) (hf : ∃ vs, oe.data = .fields vs) (he : PE X e te) (hb : attributeBase e n X.env (eval e X.env) = eval e X.env := by rfl) (eK : X.K = K := by rfl) :
    PE X (.Attribute e n pos) (tXf2 K a cls d n te) := by
  subst eK
  refine ⟨fun pins s σ H Q I h => ?_⟩
  refine attr_of hb (thn (he.run pins s σ H _ I h) fun u s1 hh => ?_)
  obtain ⟨x, H1, I1, rx, ex, C, dd, fs, v, ec, T, hno, ed, ea, l, q⟩ := hh
  subst ex
  obtain rfl : u = Value.ref a := rx
  subst ec
  subst ed
  obtain ⟨ha, _⟩ := I1.pin (a, oe) (List.mem_append_left _ hp)
  obtain ⟨vs, hd⟩ := hf
  have hx : ObjOk X.prog X.w H1 s1.heap dd (.xd fs) := I1.hok dd _ ea
  obtain ⟨mA, hns, hr⟩ := hx
  obtain ⟨od, ho, hl⟩ := lookIn_ns hns
  obtain ⟨u, hu, ru⟩ := RelO.some_of (v := v) (o := mA n) (by rw [← l]; exact hr n)
  have J : PySem.W.InstAt s1.heap a oe C (some od) := ⟨ha, hz.1, by unfold PySem.W.notCls; rw [hd] <;> rfl, by rw [hz.2]; exact ho⟩
  exact HandSPX.exc_get I1.kIn J T.ga T.gg T.exC (PySem.W.findObj_own T.hdC hno rfl (by rw [hl, hu])) (handed_of ru) ⟨v, H1, I1.tok _, ru, q⟩
theorem r_xf2 {K : PySem.W.Frag} {a C : Addr} {d : Addr} {f : Str} {te : TE} {σ : L2.St} {H : Hp} {Q : VK} (k : te σ H fun x H1 => x = .ref a ∧ ∃ (C' dd : Addr) (fs : List (Str × V)) (v : V), (.ref C : Value) = .ref C' ∧ XfC K C' ∧ PySem.W.findIn K (.ref C') f = some none ∧ some d = some dd ∧ H1 dd = some (.xd fs) ∧ fs.lookup f = some v ∧ Q v H1) : tXf2 K a (.ref C) (some d) f te σ H Q := k
theorem r_xf2At {K : PySem.W.Frag} {a C d : Addr} {fs : List (Str × V)} {f : Str} {v : V} {H1 : Hp} {Q : VK} (T : XfC K C) (hn : PySem.W.findIn K (.ref C) f = some none) (h : H1 d = some (.xd fs)) (l : fs.lookup f = some v) (k : Q v H1) :
    V.ref a = .ref a ∧ ∃ (C' dd : Addr) (fs : List (Str × V)) (v : V), (.ref C : Value) = .ref C' ∧ XfC K C' ∧ PySem.W.findIn K (.ref C') f = some none ∧ some d = some dd ∧ H1 dd = some (.xd fs) ∧ fs.lookup f = some v ∧ Q v H1 := ⟨rfl, C, d, fs, v, rfl, T, hn, rfl, h, l, k⟩
theorem r_isXTy {K : PySem.W.Frag} {a D d : Addr} {T : String} {fs : List (Str × V)} {b : Bool} {H : Hp} {Q : VK} (C : ExcC K D) (h : H d = some (.xd fs)) (e : PySem.W.kitOne K (.ref D) (.type T) = some b) (q : Q (.bl b) H) : rIsX K (.ref D) (some d) a [.ref a, .ty T] H Q :=
  ⟨D, .ty T, .type T, b, rfl, C, rfl, fun dd e => by cases e; exact ⟨fs, h⟩, fun u r => r, e, q⟩
theorem r_isXCl {K : PySem.W.Frag} {a D d c : Addr} {fs : List (Str × V)} {b : Bool} {H : Hp} {Q : VK} (C : ExcC K D) (h : H d = some (.xd fs)) (e : PySem.W.kitOne K (.ref D) (.ref c) = some b) (q : Q (.bl b) H) : rIsX K (.ref D) (some d) a [.ref a, .ref c] H Q :=
  ⟨D, .ref c, .ref c, b, rfl, C, rfl, fun dd e => by cases e; exact ⟨fs, h⟩, fun u r => r, e, q⟩
theorem kit_ty1 {K : PySem.W.Frag} {D : Addr} {T : String} {b : Bool} (h : PySem.W.subIn K (.ref D) (.type T) = some b) (hm : PySem.W.kitMeta T = true := by decide +kernel) : PySem.W.kitOne K (.ref D) (.type T) = some b := by
  have e : ((.ref D : Value) == .type T) = false := rfl
  unfold PySem.W.kitOne PySem.W.kitCls
  rw [e, if_neg Bool.false_ne_true]
  dsimp only
  rw [if_pos hm]; exact h
theorem kit_self {K : PySem.W.Frag} {D : Addr} : PySem.W.kitOne K (.ref D) (.ref D) = some true := by
  unfold PySem.W.kitOne
  rw [if_pos (beq_self_eq_true _)]
theorem kit_cl {K : PySem.W.Frag} {D C : Addr} {b : Bool} (hi : PySem.W.isClsIn K C = true) (ht : PySem.W.typeIn K (.ref C) = some (.type "type")) (h : PySem.W.subIn K (.ref D) (.ref C) = some b) (hn : b = true ∨ D ≠ C) : PySem.W.kitOne K (.ref D) (.ref C) = some b := by
  unfold PySem.W.kitOne PySem.W.kitCls
  split
  · rename_i e
    have e2 : D = C := Value.ref.inj (beq_iff_eq.mp e)
    rcases hn with rfl | hn
    · rfl
    · exact absurd e2 hn
  · dsimp only
    have hi' : (PySem.W.clsIn K C).isSome = true := hi
    have ht' : (PySem.W.typeIn K (.ref C) == some (.type "type")) = true := by rw [ht] <;> rfl
    rw [hi', ht', if_pos (show (true && true) = true from rfl)]; exact h
end J

set_option Elab.async false
set_option linter.all false
set_option maxRecDepth 100000
set_option maxHeartbeats 4000000
namespace J
open PySem PySem.Spec PySem.Calls L2 PyProof.Rows Builtin
/-! ### x != y by an own __eq__ -/
section
variable {prog : Program} {w : World} {A : Around} {E : Value → Shared → Prop} {s : Shared} {K : PySem.W.Frag} {x C f : Addr} {ox : Obj} {od : Option Obj} {b tb : Value}
theorem ifBound_S {M : Model} {B : String} {name : Str} {id : String} {args : List Value} {Q : Option Value → Shared → Prop} (X : K.In s.heap) (I : PySem.W.InstAt s.heap x ox C od) (hs : PySem.W.findIn K (.ref C) name = some (some (.builtin id))) (S : Slot B name id)
    (h : wpAny M A (call (.builtin id) (.ref x :: args)) (fun v => Q (some v)) E s) : wpAny M A (callSpecialIfBound? (.ref x) name args) Q E s := by
  simp only [callSpecialIfBound?, bindSpecialIfBound?]
  refine wpAny_holding (wpAny_bind (wpAny_bind (wpAny_bind (I.type.here ((PySem.W.looks_findIn X hs).here ?_)))))
  simp only [S.bind]
  refine wpAny_bind (wpAny_askSetting (wpAny_ite ?_))
  have fin : wpAny M A (call (.builtin id) ([.ref x] ++ args) >>= fun v => pure (some v)) Q E s := wpAny_bind (wpAny_mono h (fun v s' h' => wpAny_pure h') fun _ _ h' => h')
  split
  · exact wpAny_bind (wpAny_pure (wpAny_pure (by exact fin)))
  · exact wpAny_tryCatch (wpAny_bind (wpAny_pure (wpAny_pure (by exact fin))))
theorem objNe_own {Q : Fin → Shared → Prop} (X : K.In s.heap) (I : PySem.W.InstAt s.heap x ox C od) (hs : PySem.W.findIn K (.ref C) "__eq__" = some (some (.ref f))) (hf : PySem.W.isFn K (.ref f) = true) (hu : A.units < cLine)
    (hcall : wpAny (model prog w) A (call (.ref f) [.ref x, b]) (fun v s' => ∃ r, v = .bool r ∧ Q (.done (.ret (.bool (!r)))) s') E s) :
    wpAny (model prog w) A (Builtin.«object.__ne__» ⟨[.ref x, b], []⟩) Q E s := by
  unfold Builtin.«object.__ne__»
  repeat (first
    | with_reducible refine wpAny_cRoomFor hu ?_
    | (refine wpAny_bind (m := callSpecialIfBound? (.ref x) (Str.ofString "__eq__") [b])
        (PySem.W.ifBound_K X I hs hf (wpAny_mono hcall (fun v s' hr => by
          obtain ⟨r, rfl, hq⟩ := hr
          repeat (first | exact hq | exact wpAny_pure hq | exact wpAny_truthy_bool hq | (refine wpAny_bind (m := truthy (.bool _)) (wpAny_truthy_bool ?_)) | wp_step)) fun _ _ e => e)))
    | wp_step)
theorem tryNe_own {Q : Option Value → Shared → Prop} (X : K.In s.heap) (I : PySem.W.InstAt s.heap x ox C od) (hs : PySem.W.findIn K (.ref C) "__eq__" = some (some (.ref f))) (hf : PySem.W.isFn K (.ref f) = true)
    (hn : PySem.W.findIn K (.ref C) "__ne__" = some (some (.builtin "object.__ne__"))) (ho : PySem.W.subIn K (.ref C) (.type "object") = some true) (hu : A.units + 1 < cLine)
    (hcall : wpAny (model prog w) A.in1 (call (.ref f) [.ref x, b]) (fun v s' => ∃ r, v = .bool r ∧ Q (some (.bool (!r))) s') E s) :
    wpAny (model prog w) A (tryCompare (.ref x) "__ne__" b) Q E s := by
  unfold tryCompare
  refine wpAny_bind (ifBound_S X I hn F.cmp_object.ne (wpAny_call (codeAny_call_builtin F.cmp_object.ne.plain F.cmpEntry_ne
    (PySem.W.check_slot F.cmpKind_ne F.cmpSplit_ne (I.type.andThen (PySem.W.looks_subIn X ho)) (F.cmpArgs_ne _ _) (objNe_own (A := A.in1) X I hs hf hu (wpAny_mono hcall (fun v s' hv => ?_) fun _ _ e => e))))))
  obtain ⟨r, rfl, hq⟩ := hv
  first | exact wpAny_pure hq | exact ⟨r, rfl, wpAny_pure hq⟩ | exact ⟨r, rfl, wpAny_pure (wpAny_pure hq)⟩ | exact ⟨r, rfl, hq⟩
theorem ne_own {Q : Value → Shared → Prop} (X : K.In s.heap) (I : PySem.W.InstAt s.heap x ox C od) (hb : PySem.W.Looks (model prog w) s.heap (typeOf b) tb) (hnf : PySem.W.notFirst K C tb = true) (hs : PySem.W.findIn K (.ref C) "__eq__" = some (some (.ref f))) (hf : PySem.W.isFn K (.ref f) = true)
    (hn : PySem.W.findIn K (.ref C) "__ne__" = some (some (.builtin "object.__ne__"))) (ho : PySem.W.subIn K (.ref C) (.type "object") = some true) (hu : A.units + 1 < cLine)
    (hcall : wpAny (model prog w) A.in1 (call (.ref f) [.ref x, b]) (fun v s' => ∃ r, v = .bool r ∧ Q (.bool (!r)) s') E s) : wpAny (model prog w) A (richCompare .NotEq (.ref x) b) Q E s := by
  have one : wpAny (model prog w) A (tryCompare (.ref x) (cmpInfo .NotEq).2.1 b) (fun r s' => ∃ v, r = some v ∧ Q v s') E s :=
    tryNe_own X I hs hf hn ho hu (wpAny_mono hcall (fun v s' ⟨r, e, q⟩ => ⟨r, e, _, rfl, q⟩) fun _ _ e => e)
  unfold richCompare
  simp only [oneThing_ref]
  refine wpAny_holding (wpAny_bind (wpAny_cRoomFor (Nat.lt_of_succ_lt hu) ?_))
  refine wpAny_bind (I.type.here (wpAny_bind (hb.here ?_)))
  split
  · rename_i q
    have e : PySem.W.subIn K tb (.ref C) = some false := by
      rcases Bool.or_eq_true_iff.mp hnf with e | e
      · rw [beq_iff_eq.mp e] at q; simp at q
      · exact beq_iff_eq.mp e
    refine wpAny_bind ((PySem.W.looks_subIn X e).here ?_)
    simp only [Bool.false_eq_true, if_false]
    refine wpAny_bind (wpAny_mono one (fun r s' z => ?_) fun _ _ e => e)
    obtain ⟨v, rfl, hq⟩ := z
    exact wpAny_pure hq
  · refine wpAny_bind (wpAny_pure ?_)
    simp only [Bool.false_eq_true, if_false]
    refine wpAny_bind (wpAny_mono one (fun r s' z => ?_) fun _ _ e => e)
    obtain ⟨v, rfl, hq⟩ := z
    exact wpAny_pure hq
end
/-- a class with an own __eq__, without an own __ne__ -/
structure OwnEq (K : PySem.W.Frag) (C f : Addr) : Prop where
  eq : PySem.W.findIn K (.ref C) "__eq__" = some (some (.ref f))
  fn : PySem.W.isFn K (.ref f) = true
  ne : PySem.W.findIn K (.ref C) "__ne__" = some (some (.builtin "object.__ne__"))
  ob : PySem.W.subIn K (.ref C) (.type "object") = some true
structure CEq (P : Program) (w : World) (K : PySem.W.Frag) (mg : Str → Option Value) (base : Heap) (k : Nat) (C : Addr) (sp : Sp) : Prop where
  ex : ∃ (f : Addr) (fd : FuncData) (ps : List Str), FnOk P w K mg base CX0 k f fd ps sp ∧ Binds K fd ps [] ∧ OwnEq K C f
def rNeO (C : Addr) (sp : Sp) : R2 := fun x y H Q => ∃ a b dx dy fs gs, x = .ref a ∧ y = .ref b ∧ H a = some (.ins C dx fs) ∧ H b = some (.ins C dy gs) ∧ sp [.ref a, .ref b] H (fun v H' => ∃ r, v = .bl r ∧ Q (.bl (!r)) H') (fun _ _ _ => False)
theorem op_neO {X : Cx} {C : Addr} {sp : Sp} {k j : Nat} (c : CEq X.prog X.w X.K X.mg X.base k C sp) (hr : Room j X.A) (hk : k + 1 ≤ j) : OpR X (compareOp .NotEq) (rNeO C sp) := by
  obtain ⟨f, fd, ps, F, hb, O⟩ := c.ex
  intro pins s σ H x y v u Q I rx ry hq
  obtain ⟨a, b, dx, dy, fs, gs, rfl, rfl, ha, hb', q⟩ := hq
  cases rx
  cases ry
  obtain ⟨mA, J, _⟩ := ins_get I.hok ha
  obtain ⟨mB, J', _⟩ := ins_get I.hok hb'
  obtain ⟨od, J, _⟩ := J.look
  obtain ⟨od', J', _⟩ := J'.look
  have hr1 : Room k X.A.in1 := (hr.mono hk).in1
  show wpAny (model X.prog X.w) X.A (richCompare .NotEq (.ref a) (.ref b)) (EP X pins σ Q) X.xe s
  refine ne_own (tb := .ref C) I.kIn J J'.type (by simp [PySem.W.notFirst]) O.eq O.fn O.ne O.ob (by have := hr.un; omega) ?_
  have e0 : Env0 X.prog X.w X.K X.mg X.base X.A.in1 X.stack s H := by
    have e := I.env0
    exact ⟨e.frames, e.mod, e.bs, e.bsz, e.funs, e.frf, e.hok, e.bare⟩
  have hl := F.len _ _ _ _ q
  have r2 : Vals [V.ref a, V.ref b] [Value.ref a, Value.ref b] := .cons rfl (.cons rfl .nil)
  refine wpAny_call (codeAny_mono (F.run X.A.in1 X.stack s H ⟨[.ref a, .ref b], []⟩ [.ref a, .ref b] [.ref a, .ref b] _ _ hr1 e0 (by
    have := hb s [.ref a, .ref b] I.kIn (by simpa using hl)
    simpa using this) r2 q) fun r s' hq => ?_)
  cases r with
  | error e => exact pass00 (X := X) σ pins H s e s' I hq
  | ok fl =>
    cases fl with
    | ret w =>
      obtain ⟨z, H', I', rz, b', ez, q'⟩ := I.after hq
      subst ez
      cases rz
      exact ⟨b', rfl, .bl (!b'), H', I', rfl, q'⟩
    | next => exact False.elim hq
    | brk => exact False.elim hq
    | cont => exact False.elim hq
theorem r_neO {C a b dx dy : Addr} {fs gs : List (Str × V)} {sp : Sp} {H : Hp} {Q : VK} (ha : H a = some (.ins C dx fs)) (hb : H b = some (.ins C dy gs)) (q : sp [.ref a, .ref b] H (fun v H' => ∃ r, v = .bl r ∧ Q (.bl (!r)) H') (fun _ _ _ => False)) : rNeO C sp (.ref a) (.ref b) H Q := ⟨a, b, dx, dy, fs, gs, rfl, rfl, ha, hb, q⟩
end J

set_option Elab.async false
set_option linter.all false
set_option maxRecDepth 100000
set_option maxHeartbeats 4000000
namespace J
open PySem L2 PyProof.Rows
/-! ### C(e, .., k = v) -/
structure MakN (P : Program) (w : World) (K : PySem.W.Frag) (mg : Str → Option Value) (base : Heap) (k : Nat) (x : Str) (C : Addr) (n : Nat) (ks : List Str) (sp : Sp) : Prop where
  ex : ∃ f fd ps g gV, Mk K C f ∧ FnOk P w K mg base CX0 k f fd ps sp ∧ mg x = some (.ref C) ∧ KBn K fd ps (n + 1) ks g gV ∧ gV = fun vs zs => vs ++ zs
section
variable {X : Cx} {k j n : Nat} {C : Addr} {ks : List Str} {sp : Sp} {x : Str} {p pos : Pos} {e : Expr} {es : List Expr} {kws : List Keyword} {t tk : TA}
theorem pe_mkN (c : MakN X.prog X.w X.K X.mg X.base k x C n ks sp) (hr : Room j X.A) (hk : k + 1 ≤ j) (ha : PA X (e :: es) t) (hkw : PK X kws tk) (hg : Gl X x := by rfl)
    (hall : (backToKw pos (keywordEach kws X.env)).all (·.1.isSome) = true := by rfl) (hks : (backToKw pos (keywordEach kws X.env)).filterMap (·.1) = ks := by rfl) (hdb : (x == ("__debug__" : Str)) = false := by decide)
    (he : starEach (e :: es) X.env = (false, eval e X.env) :: starEach es X.env := by rfl) (hpl : ((backTo pos (starEach (e :: es) X.env)).any (·.1) || (backToKw pos (keywordEach kws X.env)).any (·.1.isNone)) = false := by rfl) :
    PE X (.Call (.Name x p) (e :: es) kws pos) (tMakeK C n ks.length sp (fun vs zs => vs ++ zs) E0 t tk) := by
  obtain ⟨f, fd, ps, g, gV, M, F, hm, hb, eg⟩ := c.ex
  have h := pe_makeK (p := p) M F (hr.mono hk) hg hm hb pass0 ha hkw hall hks hdb he hpl
  rw [eg] at h
  exact h
end
def MkAtN (C : Addr) (n m : Nat) (sp : Sp) (vs zs : List V) (H : Hp) (Q : VK) : Prop := vs.length = n ∧ zs.length = m ∧ ∀ x dx, H x = none → H dx = none → dx ≠ x → sp (.ref x :: vs ++ zs) (upd (upd H dx (.own x)) x (.ins C dx [])) (fun v H3 => v = .non ∧ Q (.ref x) H3) E0
theorem r_mkN {C : Addr} {n m : Nat} {sp : Sp} {t tk : TA} {σ : L2.St} {H : Hp} {Q : VK} (k : t σ H fun vs H1 => tk σ H1 fun zs H2 => MkAtN C n m sp vs zs H2 Q) : tMakeK C n m sp (fun vs zs => vs ++ zs) E0 t tk σ H Q := k
theorem r_mkNAt {C : Addr} {n m : Nat} {sp : Sp} {vs zs : List V} {H : Hp} {Q : VK} (h1 : vs.length = n) (h2 : zs.length = m) (k : ∀ x dx H', H x = none → Same H H' → H' x = some (.ins C dx []) → sp (.ref x :: (vs ++ zs)) H' (fun v H2 => v = .non ∧ Q (.ref x) H2) E0) : MkAtN C n m sp vs zs H Q :=
  ⟨h1, h2, fun x dx hx hd hn => k x dx _ hx (fun b o e => by
    rw [upd_ne (ne_of_none e hx), upd_ne (ne_of_none e hd)]; exact e) upd_same⟩
/-! ### a tuple of texts in the module -/
def strVals (ks : List Tok) (ss : List Str) : List Value := (ss.zip ks).map fun q => .str q.1 q.2
theorem sqT_mod {K : PySem.W.Frag} {H : Hp} {a : Addr} {od : Option Addr} {n : Nat} {sl : Array (Option Value)} {us : List Value} {ss : List Str} (lk : K.lookup a = some ⟨.type "tuple", od, .seq us.toArray n, sl⟩) (hl : us.length ≤ 1000) (r : Vals (ss.map V.str) us) : SqT K H a (ss.map V.str) :=
  .inr ⟨_, us.toArray, n, lk, rfl, rfl, by rw [List.size_toArray]; exact sz (Nat.le_trans hl (by decide)), by simpa using r⟩
theorem dpAll_strs {K : PySem.W.Frag} {H : Hp} : ∀ ss : List Str, DpAll K H (ss.map V.str) (ss.map PyData.str)
  | [] => .nil
  | s :: ss => .cons (.str s) (dpAll_strs ss)
theorem layAll_strs : ∀ ss : List Str, (∀ s ∈ ss, PyData.strOk s = true) → PyData.canLayAll0 (ss.map PyData.str) = true ∧ PyData.depthAll (ss.map PyData.str) = 0
  | [], _ => ⟨rfl, rfl⟩
  | s :: ss, h => by
    obtain ⟨h1, h2⟩ := layAll_strs ss fun x hx => h x (List.mem_cons_of_mem _ hx)
    refine ⟨?_, ?_⟩
    · show (PyData.strOk s && PyData.canLayAll0 (ss.map PyData.str)) = true
      rw [h s List.mem_cons_self, h1]; rfl
    · show max 0 (PyData.depthAll (ss.map PyData.str)) = 0
      rw [h2]; rfl
theorem shaped_strs {ss : List Str} (h : ∀ s ∈ ss, PyData.strOk s = true) : SeqAt.shaped (.tuple (ss.map PyData.str)) = true := by
  obtain ⟨h1, h2⟩ := layAll_strs ss h
  unfold SeqAt.shaped
  have e1 : (PyData.tuple (ss.map PyData.str)).canLay0 = true := h1
  have e2 : (PyData.tuple (ss.map PyData.str)).depth ≤ 60 := by
    show PyData.depthAll (ss.map PyData.str) + 1 ≤ 60
    omega
  rw [e1, decide_eq_true (by omega)]; rfl
theorem any_strs {ss : List Str} {s : Str} : ((ss.map PyData.str).any fun z => PyData.eqv z (.str s)) = decide (s ∈ ss) := by
  rw [Bool.eq_iff_iff, List.any_eq_true, decide_eq_true_iff]
  constructor
  · rintro ⟨z, hz, e⟩
    obtain ⟨y, hy, rfl⟩ := List.mem_map.mp hz
    have : y = s := by simpa [PyData.eqv] using e
    rw [← this]; exact hy
  · intro h
    exact ⟨.str s, List.mem_map.mpr ⟨s, h, rfl⟩, by simp [PyData.eqv]⟩
/-- s not in a tuple of texts -/
theorem r_niStrs {K : PySem.W.Frag} {H : Hp} {Q : VK} {a : Addr} {ss : List Str} {s : Str} (h : SqT K H a (ss.map V.str)) (hs : PyData.strOk s = true) (hl : ∀ s ∈ ss, PyData.strOk s = true) (q : Q (.bl (!decide (s ∈ ss))) H) : rNiA K (.str s) (.ref a) H Q := by
  refine .inr (.inr ⟨.str s, ss.map .str, .str s, .tup h (dpAll_strs ss), ?_, shaped_strs hl, ?_⟩)
  · unfold SeqAt.shaped
    have e1 : (PyData.str s).canLay0 = true := hs
    rw [e1]; rfl
  · rw [any_strs]; exact q
end J

set_option Elab.async false
set_option linter.all false
set_option maxRecDepth 100000
set_option maxHeartbeats 4000000
namespace J
open PySem PySem.Spec L2 PyProof.Rows L2H
/-! ### defs called while an exception is handled: the exception p stands in the state -/
abbrev SpP := Addr × Obj → Sp
structure FnP (P : Program) (w : World) (K : PySem.W.Frag) (mg : Str → Option Value) (base : Heap) (CX : CXT) (k : Nat) (f : Addr) (fd : FuncData) (ps : List Str) (sp : SpP) : Prop where
  len : ∀ p vs H Q E, sp p vs H Q E → vs.length = ps.length
  run : ∀ (A : Around) (outer : List Env) (s : Shared) (H : Hp) (args : Args) (us : List Value) (vs : List V) (Q : VK) (E : XK) (p : Addr × Obj), RoomH k A → PinOk outer H s p → Env0 P w K mg base A outer s H → BindsTo s fd args (ps.zip us) → Vals vs us → sp p vs H Q E →
    codeAny (model P w) A (.call (.ref f) args) (L2.CR CX outer P w H s Q E) s
theorem fnP_of {CX : CXT} {P : Program} {w : World} {K : PySem.W.Frag} {mg : Str → Option Value} {base : Heap} {k : Nat} {f : Addr} {name qual : Str} {params : Arguments} {body : List Stmt} {scope : Scope} {dV kV doc pm cdv ct oc : Value} {an od : Option Addr}
    {osl : Array (Option Value)} {N ps : List Str} {sp : SpP} (lk : K.lookup f = some ⟨oc, od, .func (PySem.W.fnOf name qual params body scope dV kV doc pm an cdv ct), osl⟩) (hcd : PySem.W.codeIn K cdv qual = true) (S : FnScope N ps scope)
    (len : ∀ p vs H Q E, sp p vs H Q E → vs.length = ps.length)
    (hbody : ∀ (A : Around) (outer : List Env) (s : Shared) (H : Hp) (vs : List V) (Q : VK) (E : XK) (p : Addr × Obj), RoomH k (A.deeper (envOfC qual scope s.heap.objs.size f cdv)) → sp p vs H Q E →
      ∃ t, PSs (cxH CX P w K mg base N qual scope f cdv A outer s H E p) body t ∧ t { nx := fun _ H' => Q .non H', rt := Q } (L2.start N vs) H) :
    FnP P w K mg base CX (k + 1) f (PySem.W.fnOf name qual params body scope dV kV doc pm an cdv ct) ps sp := by
  refine ⟨len, fun A outer s H args us vs Q E p hr hpin e0 hb r hsp => ?_⟩
  have hl := len _ _ _ _ _ hsp
  have KX : K.In s.heap := e0.mod.kin.keeps fun b o e => (e0.bs b o e).1
  have lim : s.heap.NoLimit := e0.mod.nolimit.keeps fun b o e => (e0.bs b o e).1
  have hkind : ∀ y ∈ ps.zip us, scope.names.lookup y.1 = some .local ∨ (scope.names.lookup y.1 = some .cell ∧ ((cellsFrom (s.heap.objs.size + 1) scope.names []).lookup y.1).isSome = true) := fun ⟨n, v⟩ hy => by
    rcases S.par n (List.of_mem_zip hy).1 with q | q
    · exact .inl q
    · exact .inr ⟨q, PySem.W.cellsFrom_some _ _ _ (.inl q)⟩
  refine codeAny_call_function hr.depth (KX _ _ lk) rfl S.co S.gen rfl (PySem.W.codeRec_of KX hcd) (hb _ _ _ _ ?_)
  refine wpAny_newFunctionEnv_cells S.kind hkind fun env he s1 x => ?_
  subst he
  refine ⟨lim.keeps x.toInCall.keep, codeAny_func ?_⟩
  obtain ⟨t, ht, hq⟩ := hbody A outer s H vs Q E p (hr.deeper _) hsp
  have I : Inv (cxH CX P w K mg base N qual scope f cdv A outer s H E p) [] (L2.start N vs) H s1 := inv_startH S hpin e0 hl r x
  refine wpAny_mono (ht.run [] s1 (L2.start N vs) H _ I hq) (fun fl s' hs => ?_) fun e s' hs => hs
  match fl, hs with
  | .ret u, ⟨v, σ', H', J, rv, q⟩ => exact ⟨v, H', J.os, J.bare, J.base, J.hok, rv, q⟩
  | .next, ⟨σ', H', J, q⟩ => exact ⟨.non, H', J.os, J.bare, J.base, J.hok, rfl, q⟩
  | .brk, ⟨_, _, _, q⟩ => exact q.elim
  | .cont, ⟨_, _, _, q⟩ => exact q.elim
section
variable {P : Program} {w : World} {K : PySem.W.Frag} {mg : Str → Option Value} {base : Heap}
theorem okP {x qual : Str} {st : Stmt} {f : Addr} {fd : FuncData} {N ps : List Str} {k : Nat} {sp : SpP} (F : Fun K x qual st f fd) (S : FnScope N ps (defScope st)) (len : ∀ p vs H Q E, sp p vs H Q E → vs.length = ps.length)
    (hbody : ∀ (cdv : Value) (A : Around) (outer : List Env) (s : Shared) (H : Hp) (vs : List V) (Q : VK) (E : XK) (p : Addr × Obj), RoomH k (A.deeper (envOfC qual (defScope st) s.heap.objs.size f cdv)) → sp p vs H Q E →
      ∃ t, PSs (cxH CX0 P w K mg base N qual (defScope st) f cdv A outer s H E p).nox (defBody st) t ∧ t { nx := fun _ H' => Q .non H', rt := Q } (L2.start N vs) H) : FnP P w K mg base CX0 (k + 1) f fd ps sp := by
  obtain ⟨oc, od, kV, doc, pm, an, cdv, ct, osl, rfl, lk, hcd⟩ := F.ex
  refine fnP_of lk hcd S len fun A outer s H vs Q E p hr hsp => ?_
  obtain ⟨t, h, q⟩ := hbody cdv A outer s H vs Q E p hr hsp
  exact ⟨t, h.nox, q⟩
end
structure ClP (P : Program) (w : World) (K : PySem.W.Frag) (mg : Str → Option Value) (base : Heap) (CX : CXT) (k : Nat) (x : Str) (sp : SpP) : Prop where
  ex : ∃ f fd ps, FnP P w K mg base CX k f fd ps sp ∧ mg x = some (.ref f) ∧ PySem.W.keepIn K (.ref f) = true ∧ Binds K fd ps []
section
variable {X : Cx} {CX : CXT} {k j : Nat} {sp : SpP} {E : L2.St → XK} {x : Str} {q pos : Pos} {e : Expr} {es : List Expr} {t : TA} {p : Addr × Obj}
theorem pe_clP (c : ClP X.prog X.w X.K X.mg X.base CX k x sp) (hp : p ∈ X.pn) (hr : RoomH j X.A) (hk : k ≤ j) (hx : ∀ σ, PassesAt CX X σ (E σ)) (ha : PA X (e :: es) t) (hg : Gl X x := by rfl)
    (hdb : (x == ("__debug__" : Str)) = false := by decide) (he : starEach (e :: es) X.env = (false, eval e X.env) :: starEach es X.env := by rfl) (hpl : (backTo pos (starEach es X.env)).any (·.1) = false := by rfl) :
    PE X (.Call (.Name x q) (e :: es) [] pos) (tCallS (sp p) E t) := by
  obtain ⟨f, fd, ps, F, hm, kp, hb⟩ := c.ex
  refine ⟨fun pins s σ H Q I h => ?_⟩
  refine wpAny_Call_Name_kw (ld_glob I hg hm ?_ hdb)
  refine PySem.W.callWith_K (h₀ := X.base) I.ok.mod.kin kp (thn (ha.run pos pins s σ H _ I h) fun us s1 ⟨vs, H1, I1, r, q⟩ => ⟨I1.kIn, ?_⟩) he hpl
  have hl : us.length = ps.length := by rw [← r.length]; exact F.len _ _ _ _ _ q
  have b := hb s1 us I1.kIn (by rw [List.append_nil]; exact hl)
  rw [List.append_nil] at b
  have P1 := I1.pin p (List.mem_append_left _ hp)
  have hpin : PinOk X.stack H1 s1 p := ⟨P1.1, P1.2.1, fun hm => (List.mem_cons.mp (I1.stkSub p.1 hm)).elim P1.2.2.1 P1.2.2.2.1, P1.2.2.2.2⟩
  refine wpAny_call (codeAny_mono (F.run X.A X.stack s1 H1 ⟨us, []⟩ us vs Q (E σ) p (hr.mono hk) hpin I1.env0 b r q) fun r s' hq => ?_)
  cases r with
  | error e => exact hx σ pins H1 s1 e s' I1 hq
  | ok fl =>
    cases fl with
    | ret u => exact I1.after hq
    | next => exact False.elim hq
    | brk => exact False.elim hq
    | cont => exact False.elim hq
end
end J
namespace J
open PySem PySem.Spec L2 PyProof.Rows
/-! ### xs.count(True) of truth values -/
def eqb (b : Bool) (v : Value) : Bool := match v with
  | .bool c => c == b
  | _ => false
theorem vals_bools : ∀ {bs : List Bool} {us : List Value}, Vals (bs.map V.bl) us → us = bs.map Value.bool
  | [], _, .nil => rfl
  | b :: bs, _, .cons h t => by
    rw [vals_bools t, List.map_cons]
    cases h
    rfl
def rCntB (K : PySem.W.Frag) : V → List V → Hp → VK → Prop := fun x xs H Q => ∃ (p : Addr) (bs : List Bool) (b : Bool), x = .ref p ∧ xs = [.bl b] ∧ SqL K H p (bs.map V.bl) ∧ Q (.int (bs.count b : Nat)) H
theorem mt_lcountB {X : Cx} {K : PySem.W.Frag} (eK : X.K = K := by rfl) : MtR X "list.count" (rCntB K) := by
  subst eK
  intro pins s σ H x xs v us Q I rx rxs h
  obtain ⟨p, bs, b, rfl, rfl, hs, q⟩ := h
  cases rx
  obtain ⟨u, rfl, ru⟩ := rxs.one
  cases ru
  obtain ⟨its, rv, ⟨⟨cls, dd, data, sl⟩, n, ho, hc, hdn, hd⟩, hlen⟩ := I.list hs
  simp only at hc hd
  subst hc hd
  have hi := vals_bools rv
  have he : ∀ y ∈ its.toArray.toList, ∃ c, y = .bool c := fun y hy => by
    have hy2 : y ∈ bs.map Value.bool := by rw [← hi]; exact hy
    obtain ⟨c, _, e⟩ := List.mem_map.mp hy2
    exact ⟨c, e.symm⟩
  refine call_meets PySem.F.slot_list_count ⟨_, ho, rfl⟩ PySem.F.entry_list_count (PySem.F.args_list_count_2 _ _)
    (SeqAt.list_countAt p its.toArray n dd sl (.bool b) (eqb b)) ⟨ho, fun y hy => ?_, ?_⟩
  · obtain ⟨c, rfl⟩ := he y (by simpa using hy)
    exact SeqAt.EqAt.bool_bool c b
  · have ec : its.toArray.toList.countP (eqb b) = bs.count b := by
      rw [hi]
      show (bs.map Value.bool).countP (eqb b) = _
      rw [List.countP_map]
      rfl
    refine ⟨.int (bs.count b : Nat), H, I.tok _, ⟨s.toks, ?_⟩, q⟩
    show Value.int ((its.toArray.toList.countP (eqb b) : Nat) : Int) s.toks = Value.int ((bs.count b : Nat) : Int) s.toks
    rw [ec]
end J

set_option Elab.async false
set_option linter.all false
set_option maxRecDepth 100000
set_option maxHeartbeats 4000000
namespace J
open PySem PySem.Spec L2 PyProof.Rows
/-! ### odd values: data, or a dict of ints -/
def dicD (m : List (Int × Int)) : PyData := .dict (m.map fun q => (.int q.1, .int q.2))
inductive OdV (K : PySem.W.Frag) (S : List Addr) (H : Hp) : V → PyData → Prop
  | dat {v : V} {d : PyData} (h : Dn K S H v d) : OdV K S H v d
  | dic {a : Addr} {m : List (Int × Int)} (h : H a = some (.dK (intKV m))) (n : a ∉ S) : OdV K S H (.ref a) (dicD m)
section
variable {K : PySem.W.Frag} {S T : List Addr} {H H' : Hp} {v : V} {d : PyData}
theorem OdV.but (b : But T H H') (h : OdV K S H v d) (hs : ∀ s ∈ T, s ∈ S) : OdV K S H' v d := by
  cases h with
  | dat h => exact .dat (h.but b hs)
  | dic h n => exact .dic (b.at h fun z => n (hs _ z)) n
theorem OdV.same (b : Same H H') (h : OdV K S H v d) : OdV K S H' v d := h.but (But.of_same (S := []) b) (by simp)
theorem OdV.sub (h : OdV K S H v d) (hs : ∀ s ∈ T, s ∈ S) : OdV K T H v d := by
  cases h with
  | dat h => exact .dat (h.sub hs)
  | dic h n => exact .dic h fun z => n (hs _ z)
theorem OdV.tyx (h : OdV K S H v d) : TyX K H v (.type (tyD d)) := by
  cases h with
  | dat h => exact tyx_of h
  | dic h n => exact .base (.dK h)
theorem OdV.int_inv {i : Int} (h : OdV K S H v (.int i)) : v = .int i := by
  generalize e : PyData.int i = d at h
  cases h with
  | dat h => subst e; exact h.int_inv
  | dic h n => cases e
theorem od_isi {T : String} {b : Bool} {Q : VK} (h : OdV K S H v d) (e : kitB (tyD d) T = some b) (k : Q (.bl b) H) : rIsi K [v, .ty T] H Q :=
  ⟨v, _, _, _, b, rfl, .ty T, h.tyx, kit_ty e, k⟩
theorem od_isInt {Q : VK} (h : OdV K S H v d) (k : Q (.bl (isIntD d)) H) : rIsi K [v, .ty "int"] H Q := od_isi h (kit_int d) k
theorem od_isBool {Q : VK} (h : OdV K S H v d) (k : Q (.bl (isBoolD d)) H) : rIsi K [v, .ty "bool"] H Q := od_isi h (kit_bool d) k
theorem od_isStr {Q : VK} (h : OdV K S H v d) (k : Q (.bl (isStrD d)) H) : rIsi K [v, .ty "str"] H Q := od_isi h (kit_str d) k
theorem od_isTup {Q : VK} (h : OdV K S H v d) (k : Q (.bl (isTupD d)) H) : rIsi K [v, .ty "tuple"] H Q := od_isi h (kit_tup d) k
theorem od_isList {Q : VK} (h : OdV K S H v d) (k : Q (.bl (isListD d)) H) : rIsi K [v, .ty "list"] H Q := od_isi h (kit_list d) k
end
/-! ### repr -/
theorem reads_pairs {P : Program} {w : World} {h : Heap} : ∀ {m : List (Int × Int)} {vs : List (L2.Key × Value)} {es : List DictEntry}, Pairs (mixKind P w) es vs → KV (intKV m) vs →
    ReadsAll h (es.map (·.key)) ((m.map fun q => (PyData.int q.1, PyData.int q.2)).map (·.1)) [] ∧ ReadsAll h (es.map (·.val)) ((m.map fun q => (PyData.int q.1, PyData.int q.2)).map (·.2)) []
  | [], _, es, hp, .nil => by
    cases hp
    exact ⟨.nil, .nil⟩
  | q :: m, kv :: vs, es, hp, .cons hq t => by
    cases hp with
    | @cons e _ es _ h1 h2 h3 =>
      obtain ⟨hq1, hq2⟩ := hq
      obtain ⟨ih1, ih2⟩ := reads_pairs h3 t
      dsimp only at hq1 hq2
      rw [← hq1] at h1
      obtain ⟨tk, ek⟩ := relV_key (show keyIs (Sum.inl q.1) e.key = true from h1)
      obtain ⟨tv, ev⟩ := (show ∃ t, kv.2 = Value.int q.2 t from hq2)
      refine ⟨?_, ?_⟩
      · have := ReadsAll.cons (h := h) (Reads.int q.1 tk) ih1
        rw [List.map_cons, ek]
        exact this
      · have := ReadsAll.cons (h := h) (Reads.int q.2 tv) ih2
        rw [List.map_cons, h2, ev]
        exact this
def rReprOd (K : PySem.W.Frag) : List V → Hp → VK → Prop := fun xs H Q => ∃ (x : V) (S : List Addr) (d : PyData), xs = [x] ∧ OdV K S H x d ∧ d.showable = true ∧ d.depth ≤ 60 ∧ d.shown.length ≤ sizeLine ∧ Q (.str d.shown) H
theorem call_reprOd {X : Cx} {K : PySem.W.Frag} (hg : X.A.guards = some []) (hu : X.A.units + 64 < cLine) (eK : X.K = K := by rfl) : CallR X (.builtin "repr") (rReprOd K) := by
  subst eK
  intro pins s σ H xs us Q I r h
  obtain ⟨x, S, d, rfl, hd, hs, hdp, hz, q⟩ := h
  cases hd with
  | dat h => exact call_reprD hg hu pins s σ H _ us Q I r ⟨x, d, rfl, h.dp, hs, hdp, hz, q⟩
  | @dic a m h n =>
    obtain ⟨u, rfl, rx⟩ := vals1 r
    cases rx
    obtain ⟨z, lo, vs, rel, dd⟩ := dk_rd I.hok (.inl h)
    obtain ⟨o, es, ep, ho, hex, hda, _, hpr, _⟩ := dd
    obtain ⟨r1, r2⟩ := reads_pairs (h := s.heap) hpr rel
    have rr : Reads s.heap (.ref a) (dicD m) (a :: [] ++ []) := .dict ho hex.1 hda r1 r2
    have nas : sysModules ∉ a :: ([] : List Addr) ++ [] := fun z => by
      have e : sysModules = a := by simpa using z
      rw [← e] at lo
      simp at lo
    exact repr_of_reads' rr hs (fun _ => nas) hg (by omega) (fun _ _ e => e) (fun h' v tk hk => ⟨.str _, H, I.kept hk, ⟨_, rfl⟩, q⟩) hz
end J

set_option Elab.async false
set_option linter.all false
set_option maxRecDepth 100000
set_option maxHeartbeats 4000000
namespace J
open PySem PySem.Spec L2 PyProof.Rows
/-! ### defs that raise nothing, where exceptions may be raised -/
theorem fn_lift {P : Program} {w : World} {K : PySem.W.Frag} {mg : Str → Option Value} {base : Heap} {k : Nat} {f : Addr} {fd : FuncData} {ps : List Str} {sp : Sp} (F : FnOk P w K mg base CX0 k f fd ps sp) : FnOk P w K mg base (L2.CX P w) k f fd ps sp :=
  ⟨F.len, fun A outer s H args us vs Q E hr e0 hb r h => codeAny_mono (F.run A outer s H args us vs Q E hr e0 hb r h) fun r s' q => by
    match r, q with
    | .error e, q => exact q.elim
    | .ok (.ret u), q => exact q
    | .ok .next, q => exact q
    | .ok .brk, q => exact q
    | .ok .cont, q => exact q⟩
/-! ### C(e, ..), its __init__ may raise -/
def tMakeS (C : Addr) (sp : Sp) (dvs : List V) (E : L2.St → XK) (t : TA) : TE := fun σ H Q => t σ H fun vs H1 => MakeAt C sp dvs (E σ) vs H1 Q
structure MakX (P : Program) (w : World) (K : PySem.W.Frag) (mg : Str → Option Value) (base : Heap) (CX : CXT) (k : Nat) (x : Str) (C : Addr) (sp : Sp) (dvs : List V) : Prop where
  ex : ∃ (f : Addr) (fd : FuncData) (ps : List Str) (ds : List Value), Mk K C f ∧ FnOk P w K mg base CX k f fd ps sp ∧ mg x = some (.ref C) ∧ Binds K fd ps ds ∧ Vals dvs ds
section
variable {X : Cx} {CX : CXT} {k j : Nat} {f C : Addr} {fd : FuncData} {ps : List Str} {sp : Sp} {dvs : List V} {ds : List Value} {E : L2.St → XK} {x : Str} {p pos : Pos} {e : Expr} {es : List Expr} {t : TA}
theorem run_makeS {pins : List (Addr × Obj)} {σ : L2.St} {H : Hp} {s : Shared} {Q : VK} {us : List Value} {vs : List V} (M : Mk X.K C f) (F : FnOk X.prog X.w X.K X.mg X.base CX k f fd ps sp) (hr : Room (k + 1) X.A) (hb : Binds X.K fd ps ds) (hd : Vals dvs ds)
    (hx : PassesAt CX X σ (E σ)) (I : Inv X pins σ H s) (r : Vals vs us) (h : MakeAt C sp dvs (E σ) vs H Q) : wpAny (model X.prog X.w) X.A (call (.ref C) us) (EP X pins σ Q) X.xe s := by
  have hq := h (s.heap.objs.size + 1) s.heap.objs.size (I.hok.fresh (Nat.le_succ _)) (I.hok.fresh (Nat.le_refl _)) (Nat.ne_of_lt (Nat.lt_succ_self _))
  have I2 := Inv.made (C := C) I
  have r2 : Vals (V.ref (s.heap.objs.size + 1) :: (vs ++ dvs)) (Value.ref (s.heap.objs.size + 1) :: (us ++ ds)) := .cons rfl (r.append hd)
  have hl : (Value.ref (s.heap.objs.size + 1) :: us ++ ds).length = ps.length := by
    have e := r2.length
    rw [F.len _ _ _ _ hq] at e
    exact e.symm
  refine wpAny_call (make_map (f := f) I.kIn M.makes M.init (beq_iff_eq.mp M.fn) (codeAny_mono (F.run _ X.stack _ _ ⟨Value.ref (s.heap.objs.size + 1) :: us, []⟩ (Value.ref (s.heap.objs.size + 1) :: (us ++ ds)) _ _ (E σ) (hr.make C us [])
    (I2.env0.make C us []) (hb _ (Value.ref (s.heap.objs.size + 1) :: us) I2.kIn hl) r2 hq) fun r s' hq' => ?_))
  cases r with
  | error e => exact hx pins _ _ e s' I2 hq'
  | ok fl =>
    cases fl with
    | ret u =>
      obtain ⟨v, H', I3, rv, ev, q3⟩ := I2.after hq'
      subst ev
      exact ⟨rv, ⟨V.ref (s.heap.objs.size + 1), H', I3, rfl, q3⟩⟩
    | next => exact False.elim hq'
    | brk => exact False.elim hq'
    | cont => exact False.elim hq'
theorem pe_mkX (c : MakX X.prog X.w X.K X.mg X.base CX k x C sp dvs) (hr : Room j X.A) (hk : k + 1 ≤ j) (hx : ∀ σ, PassesAt CX X σ (E σ)) (ha : PA X (e :: es) t) (hg : Gl X x := by rfl)
    (hdb : (x == ("__debug__" : Str)) = false := by decide) (he : starEach (e :: es) X.env = (false, eval e X.env) :: starEach es X.env := by rfl) (hpl : (backTo pos (starEach es X.env)).any (·.1) = false := by rfl) :
    PE X (.Call (.Name x p) (e :: es) [] pos) (tMakeS C sp dvs E t) := by
  obtain ⟨f, fd, ps, ds, M, F, hm, hb, hd⟩ := c.ex
  refine ⟨fun pins s σ H Q I h => ?_⟩
  refine wpAny_Call_Name_kw (ld_glob I hg hm ?_ hdb)
  refine PySem.W.callWith_K (h₀ := X.base) I.ok.mod.kin M.kp (thn (ha.run pos pins s σ H _ I h) fun us s1 ⟨vs, H1, I1, r, q⟩ => ⟨I1.kIn, ?_⟩) he hpl
  exact run_makeS M F (hr.mono hk) hb hd (hx σ) I1 r q
end
theorem r_makeS {C : Addr} {sp : Sp} {dvs : List V} {E : L2.St → XK} {t : TA} {σ : L2.St} {H : Hp} {Q : VK} (k : t σ H fun vs H1 => MakeAt C sp dvs (E σ) vs H1 Q) : tMakeS C sp dvs E t σ H Q := k
theorem pe_gcl {X : Cx} {C : Addr} {x : Str} {pos : Pos} (hg : Gl X x) (hm : X.mg x = some (.ref C)) (hd : (x == ("__debug__" : Str)) = false := by decide) : PE X (.Name x pos) (tC (.ref C)) := pe_glob (v := .ref C) hg hm rfl hd
/-- the fields of an error with one field -/
def fo1 (f why : Str) : List V → Option (List (Str × V))
  | [y] => some [(f, y), ("why", .str why)]
  | _ => none
end J

set_option Elab.async false
set_option linter.all false
set_option maxRecDepth 100000
set_option maxHeartbeats 4000000
namespace J
open PySem PySem.Spec L2 PyProof.Rows
/-! ### text * int -/
def repS (a : Str) (k : Nat) : Str := if k = 0 then Str.empty else if k = 1 ∨ a.length = 0 then a else ⟨(List.replicate k a.cps).foldl (· ++ ·) #[]⟩
def rRepS : R2 := fun x y H Q => ∃ (a : Str) (n : Nat), x = .str a ∧ y = .int n ∧ n ≤ 1000 ∧ a.length ≤ 1000 ∧ Q (.str (repS a n)) H
theorem op_mulS {X : Cx} : OpR X (binaryOp .Mult) rRepS := by
  intro pins s σ H x y v u Q I rx ry h
  obtain ⟨a, n, rfl, rfl, hn, ha, q⟩ := h
  obtain ⟨t, rfl⟩ := rx
  obtain ⟨t2, rfl⟩ := ry
  have hle : a.length * n ≤ 1000000 := Nat.le_trans (Nat.mul_le_mul ha hn) (by decide)
  refine PySem.P.mul_str (by rw [decide_eq_false (by omega), decide_eq_false (by omega)]; rfl) (fun h1 _ => ?_) (fun _ _ => ?_) ?_
  · have h3 : ((a.length * n : Nat) : Int) ≤ 1000000 := Int.ofNat_le.mpr hle
    rw [Int.natCast_mul] at h3
    exact Int.not_lt.mpr (Int.le_ediv_of_mul_le (Int.lt_of_lt_of_le (by decide) (Int.not_lt.mp h1)) (Int.le_trans h3 (by decide)))
  · rw [Int.toNat_natCast]
    exact Bool.eq_false_iff.mpr (PySem.W.KPc.short (by omega))
  · unfold repS at q
    by_cases h0 : n = 0
    · subst h0
      rw [if_pos (by decide)]
      rw [if_pos rfl] at q
      exact ⟨by decide, .str _, H, I.tok _, ⟨_, rfl⟩, q⟩
    · rw [if_neg (by omega)]
      rw [if_neg h0] at q
      by_cases h1 : n = 1 ∨ a.length = 0
      · rw [if_pos h1] at q
        have e : ((n : Int) == 1 || a.length == 0) = true := by
          rcases h1 with h | h
          · rw [h]; rfl
          · rw [h]; simp
        rw [if_pos e]
        exact ⟨.str _, H, I, ⟨_, rfl⟩, q⟩
      · rw [if_neg h1] at q
        have e : ((n : Int) == 1 || a.length == 0) = false := by
          rw [Bool.or_eq_false_iff]
          refine ⟨beq_eq_false_iff_ne.mpr fun z => h1 (.inl (by omega)), beq_eq_false_iff_ne.mpr fun z => h1 (.inr z)⟩
        rw [e, if_neg Bool.false_ne_true]
        refine ⟨?_, .str _, H, I.tok _, ⟨_, rfl⟩, q⟩
        rw [Int.toNat_natCast]
        have e2 : ∀ (k : Nat) (b : Array _), (List.foldl (fun x1 x2 => x1 ++ x2) b (List.replicate k a.cps)).size = b.size + k * a.cps.size := by
          intro k
          induction k with
          | zero => intro b; simp
          | succ k ih => intro b; rw [List.replicate_succ, List.foldl_cons, ih, Array.size_append, Nat.succ_mul]; omega
        have e3 : ({ cps := List.foldl (fun x1 x2 => x1 ++ x2) #[] (List.replicate n a.cps) } : Str).length = n * a.length := by
          show (List.foldl (fun x1 x2 => x1 ++ x2) #[] (List.replicate n a.cps)).size = n * a.cps.size
          rw [e2]; simp
        rw [e3]
        exact sz (by rw [Nat.mul_comm]; omega)
theorem r_iteSh {P A B : Prop} {dp : Decidable P} (T : A) (h2 : ¬ P → A → B) : if decide P = true then A else B := by
  by_cases h : P
  · rw [if_pos (decide_eq_true h)]; exact T
  · rw [if_neg (by rw [decide_eq_false h]; exact Bool.false_ne_true)]; exact h2 h T
end J
namespace J
open PySem PySem.Spec L2 PyProof.Rows L2H
/-! ### defs handed the exception in a suite: the reading knows its place, class and fields' dict -/
abbrev SpX := Addr → Value → Option Addr → Sp
def liftX (sp : SpX) : SpP := fun p vs H Q E => ∃ (cls : Value) (d : Option Addr), Zc cls d p.2 ∧ (∃ vs, p.2.data = .fields vs) ∧ sp p.1 cls d vs H Q E
section
variable {X : Cx} {CX : CXT} {k j : Nat} {sp : SpX} {E : L2.St → XK} {x : Str} {q pos : Pos} {e : Expr} {es : List Expr} {t : TA} {a : Addr} {oe : Obj} {cls : Value} {d : Option Addr}
theorem pe_clX (c : ClP X.prog X.w X.K X.mg X.base CX k x (liftX sp)) (hp : (a, oe) ∈ X.pn) (hz : Zc cls d oe) (hf : ∃ vs, oe.data = .fields vs) (hr : RoomH j X.A) (hk : k ≤ j) (hx : ∀ σ, PassesAt CX X σ (E σ)) (ha : PA X (e :: es) t) (hg : Gl X x := by rfl)
    (hdb : (x == ("__debug__" : Str)) = false := by decide) (he : starEach (e :: es) X.env = (false, eval e X.env) :: starEach es X.env := by rfl) (hpl : (backTo pos (starEach es X.env)).any (·.1) = false := by rfl) :
    PE X (.Call (.Name x q) (e :: es) [] pos) (tCallS (sp a cls d) E t) := by
  obtain ⟨f, fd, ps, F, hm, kp, hb⟩ := c.ex
  refine ⟨fun pins s σ H Q I h => ?_⟩
  refine wpAny_Call_Name_kw (ld_glob I hg hm ?_ hdb)
  refine PySem.W.callWith_K (h₀ := X.base) I.ok.mod.kin kp (thn (ha.run pos pins s σ H _ I h) fun us s1 ⟨vs, H1, I1, r, q⟩ => ⟨I1.kIn, ?_⟩) he hpl
  have hl : us.length = ps.length := by rw [← r.length]; exact F.len (a, oe) _ _ _ _ ⟨cls, d, hz, hf, q⟩
  have b := hb s1 us I1.kIn (by rw [List.append_nil]; exact hl)
  rw [List.append_nil] at b
  have P1 := I1.pin (a, oe) (List.mem_append_left _ hp)
  have hpin : PinOk X.stack H1 s1 (a, oe) := ⟨P1.1, P1.2.1, fun hm => (List.mem_cons.mp (I1.stkSub a hm)).elim P1.2.2.1 P1.2.2.2.1, P1.2.2.2.2⟩
  refine wpAny_call (codeAny_mono (F.run X.A X.stack s1 H1 ⟨us, []⟩ us vs Q (E σ) (a, oe) (hr.mono hk) hpin I1.env0 b r ⟨cls, d, hz, hf, q⟩) fun r s' hq => ?_)
  cases r with
  | error e => exact hx σ pins H1 s1 e s' I1 hq
  | ok fl =>
    cases fl with
    | ret u => exact I1.after hq
    | next => exact False.elim hq
    | brk => exact False.elim hq
    | cont => exact False.elim hq
end
end J

set_option Elab.async false
set_option linter.all false
set_option maxRecDepth 100000
set_option maxHeartbeats 4000000
namespace J
open PySem PySem.Spec L2 PyProof.Rows
/-! ### several except clauses, each with its own «as n» -/
/-- a clause: the class, the slot of its name, what its suite reads -/
structure Cls3 where
  c : Value
  i : Nat
  ts : Addr → Value → Option Addr → TS
def wManyAs (K : PySem.W.Frag) (Wout : WX) (D : Ends) : List Cls3 → WX
  | [] => Wout
  | h :: r => wAs K h.c h.i h.ts (wManyAs K Wout D r) D
inductive HdsAs (X : Cx) : List ExceptHandler → List Cls3 → Prop
  | nil : HdsAs X [] []
  | cons {x n : Str} {c : Value} {i : Nat} {ts : Addr → Value → Option Addr → TS} {b₀ : Stmt} {suite : List Stmt} {np pos' : Pos} {hds : List ExceptHandler} {l : List Cls3} (hi : X.N[i]? = some n) (hln : X.env.kindOf n = some .local) (hc : Names X x c)
      (hsu : ∀ (a : Addr) (oe : Obj) (cls : Value) (d : Option Addr) (pn : List (Addr × Obj)), Zc cls d oe → (∃ vs, oe.data = .fields vs) → PSs (X.suite a ((a, oe) :: pn)) (b₀ :: suite) (ts a cls d)) (r : HdsAs X hds l) :
      HdsAs X (.ExceptHandler (some (.Name x np)) (some n) (b₀ :: suite) pos' :: hds) (⟨c, i, ts⟩ :: l)
section
variable {X : Cx} {body : List Stmt} {h₀ : ExceptHandler} {hds : List ExceptHandler} {l : List Cls3} {pos : Pos} {tb : WX → TS} {Wout : WX}
theorem ps_try_manyAs (hs : X.stack = X.env :: X.outer) (hf : X.env.frame = some X.env.locals) (hN : X.N.Nodup) (tk : Takes X Wout)
    (hb : ∀ (W : WX) (pn : List (Addr × Obj)) (xe : Value → Shared → Prop), Takes (X.tr pn xe) W → PassesOwn (model X.prog X.w) X.A X.env xe → PSs (X.tr pn xe) body (tb W))
    (hh : HdsAs X (h₀ :: hds) l) : PS X (.Try body (h₀ :: hds) [] [] pos) (fun D σ H => tb (wManyAs X.K Wout D l) D σ H) := by
  refine ⟨fun pins s σ H D I h => ?_⟩
  have ok := I.ok
  have hfr : X.A.frames = some (X.env :: X.outer) := by rw [ok.frames, hs]
  refine wpAny_Try_except ?_
  refine wpAny_mono ((hb (wManyAs X.K Wout D l) (X.pn ++ pins) (fun e s₁ => wpAny (model X.prog X.w) X.A (noteFrame e X.env) (fun _ s₂ => wpAny (model X.prog X.w) X.A (setFlight e none) (fun _ s₃ =>
    wpAny (model X.prog X.w) X.A (handleBy e X.env (h₀ :: hds)) (SP X pins D) X.xe s₃) X.xe s₂) X.xe s₁) (fun u s' xx => ?_) PassesOwn.looking).run [] s σ H D (I.toTry _) h) (fun f s1 hsp => ?_) (fun e s1 he => he)
  · obtain ⟨a, B, sI, pins', σ', H', cls, d, rfl, J', nb, up, sky, na, os, ag, w⟩ := xx
    have J : Inv X pins σ' H' sI := J'.ofTry ok
    have sky' : Sky B (X.env :: X.outer) a (Zc cls d) X.env.locals s'.heap := by rw [← hs]; exact sky
    show wpAny (model X.prog X.w) X.A (noteFrame (.ref a) X.env) _ _ _
    refine Sky.land Zc.steady hfr hf sky' fun h3 fl3 up3 => ?_
    have J3 : Inv X pins σ' H' { s' with heap := h3 } := J.landed nb fl3.1 (up.trans up3) os ag
    obtain ⟨oe3, vs3, he3, hz3, hd3⟩ := fl3.there
    have notFr : ∀ {h : Heap} {o : Obj} {vs : Array Value}, h.FunFrames B (X.env :: X.outer) → h.get? a = some o → o.data = .fields vs → a ∉ frs (X.env :: X.outer) := fun {h o vs} ff e dd hm => by
      obtain ⟨_, o', e', hnf⟩ := ff.mem hm
      rw [e] at e'; cases e'
      exact hnf _ dd
    have nfr := notFr fl3.2.2.1 he3 hd3
    have nL : a ≠ X.env.locals := fun z => nfr (List.mem_filterMap.mpr ⟨X.env, List.mem_cons_self, by rw [hf, z]⟩)
    have nF : a ∉ X.fs := fun hm => by
      obtain ⟨e, he, q⟩ := List.mem_filterMap.mp hm
      exact nfr (List.mem_filterMap.mpr ⟨e, List.mem_cons_of_mem _ he, q⟩)
    have S3 := J3.suite he3 hd3 na nL nF
    have go : ∀ {hds' : List ExceptHandler} {l' : List Cls3}, HdsAs X hds' l' → wManyAs X.K Wout D l' cls d σ' H' →
        wpAny (model X.prog X.w) X.A (handleBy (.ref a) X.env hds') (SP X pins D) X.xe { s' with heap := h3 } := by
      intro hds' l' hk
      induction hk with
      | nil =>
        intro w
        refine wpAny_handleBy_nil ?_
        obtain ⟨k1, k2, k3, oe, vs, T, oT, ts', he, hz, hd, h1, hr⟩ := id fl3
        unfold PySem.passOn
        refine wpAny_bind (wpAny_field he hd h1 ?_)
        rw [if_neg (show ¬ ((Value.ref T == Value.none) = true) from by simp)]
        have fin : wpAny (model X.prog X.w) X.A (setFlight (.ref a) X.env.frame) (fun _ s4 => wpAny (model X.prog X.w) X.A (throw (.ref a) : Sem Flow) (SP X pins D) X.xe s4) X.xe { s' with heap := h3 } := by
          rw [hf]
          refine HandSPX.setFlight_upZ fl3 fun h4 hh4 up4 => wpAny_throw (tk _ _ ?_)
          exact ⟨a, B, sI, pins, σ', H', cls, d, rfl, J, nb, (up.trans up3).trans up4, .inr (.inr (by rw [hs]; exact hh4)), na, os, ag, w⟩
        first
          | exact wpAny_bind (wpAny_pure (wpAny_bind fin))
          | exact wpAny_bind fin
      | @cons x n c i ts b₀ suite np pos' hds2 l2 hi hln hc hsu r ih =>
        intro w
        obtain ⟨b, hb1, hyes, hno⟩ := w
        have hloc : Loc X.env.scope n := .inl hln
        refine wpAny_handleBy_cons (codeAny_handlers_test ?_) (by intro q; cases q)
        have LT : PySem.W.Looks (model X.prog X.w) h3 (typeOf (.ref a)) cls := fun A Q E s k q => wpAny_typeOf_ref (k _ _ he3) (by rw [hz3.1]; exact q)
        have LM := PySem.W.exm_one (M := model X.prog X.w) (J3.kIn) LT hb1
        have test : ∀ {Q : Value → Shared → Prop} {E : Value → Shared → Prop}, Q c { s' with heap := h3 } → wpAny (model X.prog X.w) (X.A.mark (some (.ref a))) (eval (.Name x np) X.env) Q E { s' with heap := h3 } := fun {Q E} q => by
          obtain ⟨hg, hdbg, hm | ⟨hm, hv, hnn⟩⟩ := hc
          · exact ld_glob (X := X.suite a ((a, oe3) :: (X.pn ++ pins))) S3 hg hm q hdbg
          · exact ld_blt (X := X.suite a ((a, oe3) :: (X.pn ++ pins))) S3 hg hm hv q hnn hdbg
        refine test (LM.here ?_)
        cases b with
        | true =>
          refine codeAny_handlers_suite_as ?_
          refine HandSPX.lands_againZ fl3 fun h4 fl4 up4 => ?_
          have J4 : Inv X pins σ' H' { s' with heap := h4 } := J.landed nb fl4.1 ((up.trans up3).trans up4) os ag
          obtain ⟨oe4, vs4, he4, hz4, hd4⟩ := fl4.there
          have S4 := J4.suite he4 hd4 na nL nF
          refine store_ok (X := X.suite a ((a, oe4) :: (X.pn ++ pins))) (v := .ref a) S4 hN hi hloc rfl (fun s5 S5 => ?_) (.inr hln)
          refine wpAny_mono ((hsu a oe4 cls d (X.pn ++ pins) hz4 ⟨_, hd4⟩).run [] s5 _ H' _ S5 (hyes rfl a na)) (fun f s6 hsp => ?_) (fun _ _ z => False.elim z)
          have end_ : ∀ {σ6 : L2.St} {H6 : Hp} {Q : Shared → Prop}, Inv (X.suite a ((a, oe4) :: (X.pn ++ pins))) [] σ6 H6 s6 → (∀ s7, Inv X pins (σ6.set i none) H6 s7 → Q s7) →
              wpAny (model X.prog X.w) X.A (do bindName X.env n .none; unbindBehindTheSuite X.env n pos') (fun _ s7 => Q s7) X.xe s6 := fun {σ6 H6 Q} S6 hq => gone_ok (S6.unsuite ok) hN hi hln hq
          cases f with
          | next =>
            obtain ⟨σ6, H6, S6, q6⟩ := hsp
            exact end_ S6 fun s7 J7 => ⟨_, _, J7, q6⟩
          | brk =>
            obtain ⟨σ6, H6, S6, q6⟩ := hsp
            exact end_ S6 fun s7 J7 => ⟨_, _, J7, q6⟩
          | cont =>
            obtain ⟨σ6, H6, S6, q6⟩ := hsp
            exact end_ S6 fun s7 J7 => ⟨_, _, J7, q6⟩
          | ret u =>
            obtain ⟨v6, σ6, H6, S6, r6, q6⟩ := hsp
            exact end_ S6 fun s7 J7 => ⟨_, _, _, J7, r6, q6⟩
        | false =>
          show wpAny _ X.A (handleBy (.ref a) X.env hds2) _ _ _
          exact ih (hno rfl)
    exact go hh w
  · cases f with
    | next =>
      obtain ⟨σ', H', J', q⟩ := hsp
      exact wpAny_execs_nil ⟨σ', H', J'.ofTry ok, q⟩
    | brk =>
      obtain ⟨σ', H', J', q⟩ := hsp
      exact ⟨σ', H', J'.ofTry ok, q⟩
    | cont =>
      obtain ⟨σ', H', J', q⟩ := hsp
      exact ⟨σ', H', J'.ofTry ok, q⟩
    | ret u =>
      obtain ⟨v, σ', H', J', r, q⟩ := hsp
      exact ⟨v, σ', H', J'.ofTry ok, r, q⟩
end
end J

set_option Elab.async false
set_option linter.all false
set_option maxRecDepth 100000
set_option maxHeartbeats 4000000
namespace J
open PySem PySem.Spec PySem.Calls L2 PyProof.Rows Builtin
/-! ### x == y, x != y by an own __eq__, y of any type; repr by an own __repr__ -/
def rEqO (K : PySem.W.Frag) (C : Addr) (sp : Sp) : R2 := fun x y H Q => ∃ a dx fs t, x = .ref a ∧ H a = some (.ins C dx fs) ∧ TyX K H y t ∧ PySem.W.notFirst K C t = true ∧ sp [.ref a, y] H (fun v H' => ∃ r, v = .bl r ∧ Q (.bl r) H') (fun _ _ _ => False)
def rNeO2 (K : PySem.W.Frag) (C : Addr) (sp : Sp) : R2 := fun x y H Q => ∃ a dx fs t, x = .ref a ∧ H a = some (.ins C dx fs) ∧ TyX K H y t ∧ PySem.W.notFirst K C t = true ∧ sp [.ref a, y] H (fun v H' => ∃ r, v = .bl r ∧ Q (.bl (!r)) H') (fun _ _ _ => False)
section
variable {X : Cx} {C : Addr} {sp : Sp} {k j : Nat}
theorem call_sp {f : Addr} {fd : FuncData} {ps : List Str} {A : Around} {pins : List (Addr × Obj)} {s : Shared} {σ : L2.St} {H : Hp} {R : V → Hp → Prop} {vs : List V} {us : List Value} (F : FnOk X.prog X.w X.K X.mg X.base CX0 k f fd ps sp) (hb : Binds X.K fd ps []) (I : Inv X pins σ H s) (hr : Room k A) (hf : A.frames = X.A.frames) (r2 : Vals vs us)
    (q : sp vs H R (fun _ _ _ => False)) : wpAny (model X.prog X.w) A (call (.ref f) us) (fun v s' => ∃ z H', Inv X pins σ H' s' ∧ RelV z v ∧ R z H') X.xe s := by
  have e0 : Env0 X.prog X.w X.K X.mg X.base A X.stack s H := by
    have e := I.env0
    exact ⟨by rw [hf]; exact e.frames, e.mod, e.bs, e.bsz, e.funs, e.frf, e.hok, e.bare⟩
  have hl : us.length = ps.length := r2.length.symm.trans (F.len _ _ _ _ q)
  refine wpAny_call (codeAny_mono (F.run A X.stack s H ⟨us, []⟩ us vs _ _ hr e0 (by
    have := hb s us I.kIn (by simpa using hl)
    simpa using this) r2 q) fun r s' hq => ?_)
  cases r with
  | error e => exact pass00 (X := X) σ pins H s e s' I hq
  | ok fl =>
    cases fl with
    | ret w =>
      obtain ⟨z, H', I', rz, q'⟩ := I.after hq
      exact ⟨z, H', I', rz, q'⟩
    | next => exact False.elim hq
    | brk => exact False.elim hq
    | cont => exact False.elim hq
theorem op_eqO (c : CEq X.prog X.w X.K X.mg X.base k C sp) (hr : Room j X.A) (hk : k + 1 ≤ j) : OpR X (compareOp .Eq) (rEqO X.K C sp) := by
  obtain ⟨f, fd, ps, F, hb, O⟩ := c.ex
  intro pins s σ H x y v u Q I rx ry hq
  obtain ⟨a, dx, fs, t, rfl, ha, ty, nf, q⟩ := hq
  cases rx
  obtain ⟨mA, J, _⟩ := ins_get I.hok ha
  obtain ⟨od, J, _⟩ := J.look
  obtain ⟨P, Z, p, hx⟩ := kit_of I ry ty
  obtain ⟨m, hF⟩ := I.fr
  have hr1 : Room k X.A := (hr.mono (by omega))
  show wpAny (model X.prog X.w) X.A (richCompare .Eq (.ref a) u) (EP X pins σ Q) X.xe s
  refine PySem.W.cmp_K (op := .Eq) (tb := t) hr1.units0 hF I.ok.mod.kin J (Z.ty _ _ I.kIn p) nf O.eq O.fn ?_
  refine wpAny_mono (call_sp F hb I hr1 rfl (show Vals [V.ref a, y] [Value.ref a, u] from .cons rfl (.cons ry .nil)) q) (fun v s' z => ?_) fun _ _ e => e
  obtain ⟨z, H', I', rz, r, rfl, q'⟩ := z
  cases rz
  exact ⟨.bl r, H', I', rfl, q'⟩
theorem op_neO2 (c : CEq X.prog X.w X.K X.mg X.base k C sp) (hr : Room j X.A) (hk : k + 1 ≤ j) : OpR X (compareOp .NotEq) (rNeO2 X.K C sp) := by
  obtain ⟨f, fd, ps, F, hb, O⟩ := c.ex
  intro pins s σ H x y v u Q I rx ry hq
  obtain ⟨a, dx, fs, t, rfl, ha, ty, nf, q⟩ := hq
  cases rx
  obtain ⟨mA, J, _⟩ := ins_get I.hok ha
  obtain ⟨od, J, _⟩ := J.look
  obtain ⟨P, Z, p, hx⟩ := kit_of I ry ty
  have hr1 : Room k X.A.in1 := (hr.mono hk).in1
  show wpAny (model X.prog X.w) X.A (richCompare .NotEq (.ref a) u) (EP X pins σ Q) X.xe s
  refine ne_own (tb := t) I.kIn J (Z.ty _ _ I.kIn p) nf O.eq O.fn O.ne O.ob (by have := hr.un; omega) ?_
  refine wpAny_mono (call_sp F hb I hr1 rfl (show Vals [V.ref a, y] [Value.ref a, u] from .cons rfl (.cons ry .nil)) q) (fun v s' z => ?_) fun _ _ e => e
  obtain ⟨z, H', I', rz, r, rfl, q'⟩ := z
  cases rz
  exact ⟨r, rfl, .bl (!r), H', I', rfl, q'⟩
end
section
variable {prog : Program} {w : World} {A : Around} {E : Value → Shared → Prop} {s : Shared} {K : PySem.W.Frag} {x C f : Addr} {ox : Obj} {od : Option Obj}
theorem repr_own {Q : Value → Shared → Prop} (hu : A.units + 1 < cLine) (X : K.In s.heap) (I : PySem.W.InstAt s.heap x ox C od) (hr : PySem.W.findIn K (.ref C) "__repr__" = some (some (.ref f))) (hf : PySem.W.isFn K (.ref f) = true)
    (h : wpAny (model prog w) A.in1 (call (.ref f) [.ref x]) (fun v s' => ∃ y t, v = .str y t ∧ Q v s') E s) : wpAny (model prog w) A (call (.builtin "repr") [.ref x]) Q E s := by
  refine Calls.call_function_entry PySem.F.kind_repr PySem.F.plain_repr PySem.F.entry_repr (PySem.F.args_repr1 _) ?_
  unfold Builtin.«repr»
  refine wpAny_bind (m := oneArg "repr" _) (wpAny_pure ?_)
  refine wpAny_bind (m := cRoomFor _ _) (wpAny_cRoomFor hu ?_)
  refine wpAny_bind (m := specialOf _ _) (wpAny_bind (I.type.here ((PySem.W.looks_findIn X hr).here ?_)))
  refine wpAny_bind (m := callSpecialIfBound? (.ref x) (Str.ofString "__repr__") _) (PySem.W.ifBound_K X I hr hf (wpAny_mono h (fun v s' hq => ?_) fun _ _ y => y))
  obtain ⟨y, t, rfl, hq⟩ := hq
  refine wpAny_bind (wpAny_isInstance (T := "str") (b := true) rfl isSubtype_str_str ?_)
  exact wpAny_pure ⟨_, rfl, hq⟩
end
/-- a class with an own __repr__ -/
structure CRp (P : Program) (w : World) (K : PySem.W.Frag) (mg : Str → Option Value) (base : Heap) (k : Nat) (C : Addr) (sp : Sp) : Prop where
  ex : ∃ (f : Addr) (fd : FuncData) (ps : List Str), FnOk P w K mg base CX0 k f fd ps sp ∧ Binds K fd ps [] ∧ PySem.W.findIn K (.ref C) "__repr__" = some (some (.ref f)) ∧ PySem.W.isFn K (.ref f) = true
def rReprO (C : Addr) (sp : Sp) (vs : List V) (H : Hp) (Q : VK) : Prop := ∃ a dx fs, vs = [.ref a] ∧ H a = some (.ins C dx fs) ∧ sp [.ref a] H (fun v H' => ∃ y, v = .str y ∧ Q v H') (fun _ _ _ => False)
theorem call_reprO {X : Cx} {C : Addr} {sp : Sp} {k j : Nat} (c : CRp X.prog X.w X.K X.mg X.base k C sp) (hr : Room j X.A) (hk : k + 1 ≤ j) : CallR X (.builtin "repr") (rReprO C sp) := by
  obtain ⟨f, fd, ps, F, hb, hre, hfn⟩ := c.ex
  intro pins s σ H xs us Q I r h
  obtain ⟨a, dx, fs, rfl, ha, q⟩ := h
  obtain ⟨u, rfl, rx⟩ := vals1 r
  cases rx
  obtain ⟨mA, J, _⟩ := ins_get I.hok ha
  obtain ⟨od, J, _⟩ := J.look
  have hr1 : Room k X.A.in1 := (hr.mono hk).in1
  refine repr_own (by have := hr.un; omega) I.kIn J hre hfn ?_
  refine wpAny_mono (call_sp F hb I hr1 rfl (show Vals [V.ref a] [Value.ref a] from .cons rfl .nil) q) (fun v s' z => ?_) fun _ _ e => e
  obtain ⟨z, H', I', rz, y, rfl, q'⟩ := z
  obtain ⟨t, rfl⟩ := rz
  exact ⟨y, t, rfl, .str y, H', I', ⟨t, rfl⟩, q'⟩
end J

set_option Elab.async false
set_option linter.all false
set_option maxRecDepth 100000
set_option maxHeartbeats 4000000
namespace J
open PySem PySem.Spec L2 PyProof.Rows
/-! ### shapes of data -/
structure Sh (k : Nat) (d : PyData) : Prop where
  lay : d.canLay0 = true
  dep : d.depth ≤ k
theorem Sh.mono {k k' : Nat} {d : PyData} (h : Sh k d) (l : k ≤ k') : Sh k' d := ⟨h.lay, Nat.le_trans h.dep l⟩
theorem Sh.shaped {k : Nat} {d : PyData} (h : Sh k d) (l : k ≤ 64) : SeqAt.shaped d = true := by
  have := h.dep
  unfold SeqAt.shaped
  rw [h.lay, decide_eq_true (by omega)]; rfl
theorem Sh.eqv {k : Nat} {d : PyData} (h : Sh k d) : PyData.eqv d d = true := SeqAt.eqv_refl d h.lay
theorem sh_all {k : Nat} : ∀ {ds : List PyData}, (∀ d ∈ ds, Sh k d) → PyData.canLayAll0 ds = true ∧ PyData.depthAll ds ≤ k
  | [], _ => ⟨rfl, Nat.zero_le _⟩
  | d :: ds, h => by
    obtain ⟨h1, h2⟩ := sh_all (ds := ds) fun e he => h e (List.mem_cons_of_mem _ he)
    have h3 := h d List.mem_cons_self
    refine ⟨?_, Nat.max_le.mpr ⟨h3.dep, h2⟩⟩
    show (d.canLay0 && PyData.canLayAll0 ds) = true
    rw [h3.lay, h1]; rfl
theorem Sh.list {k : Nat} {ds : List PyData} (h : ∀ d ∈ ds, Sh k d) : Sh (k + 1) (.list ds) := ⟨(sh_all h).1, Nat.succ_le_succ (sh_all h).2⟩
theorem Sh.tup {k : Nat} {ds : List PyData} (h : ∀ d ∈ ds, Sh k d) : Sh (k + 1) (.tuple ds) := ⟨(sh_all h).1, Nat.succ_le_succ (sh_all h).2⟩
theorem Sh.int {k : Nat} {i : Int} : Sh k (.int i) := ⟨rfl, Nat.zero_le _⟩
theorem Sh.str {k : Nat} {x : Str} (h : PyData.strOk x = true) : Sh k (.str x) := ⟨h, Nat.zero_le _⟩
theorem Sh.non {k : Nat} : Sh k .none := ⟨rfl, Nat.zero_le _⟩
theorem Sh.ints {k : Nat} {ns : List Int} : Sh (k + 1) (.list (ns.map .int)) := Sh.list fun d hd => by
  obtain ⟨n, _, rfl⟩ := List.mem_map.mp hd
  exact .int
theorem blk_sh {v : PyData} (h : blockB v = true) : Sh 9 v := ⟨blockB_lay h, by
  have := valB_dep v 0 (blockB_val h)
  omega⟩
theorem dwr_sh {k : Nat} {c : Int × PyData} (h : Sh k c.2) : Sh (k + 1) (dWr c) := Sh.tup fun d hd => by
  rcases List.mem_cons.mp hd with rfl | hd
  · exact .int
  · rw [List.mem_singleton.mp hd]; exact h
theorem r_neSh {K : PySem.W.Frag} {H : Hp} {Q : VK} {x y : V} {d : PyData} {k : Nat} (h1 : Dp K H x d) (h2 : Dp K H y d) (sh : Sh k d) (l : k ≤ 64) (q : Q (.bl false) H) : rNeA K x y H Q := by
  refine r_neD h1 h2 (sh.shaped l) (sh.shaped l) ?_
  rw [sh.eqv]
  exact q
theorem r_eqSh {K : PySem.W.Frag} {H : Hp} {Q : VK} {x y : V} {d : PyData} {k : Nat} (h1 : Dp K H x d) (h2 : Dp K H y d) (sh : Sh k d) (l : k ≤ 64) (q : Q (.bl true) H) : rEqA K x y H Q := by
  refine r_eqD h1 h2 (sh.shaped l) (sh.shaped l) ?_
  rw [sh.eqv]
  exact q
end J

set_option Elab.async false
set_option linter.all false
set_option maxRecDepth 100000
set_option maxHeartbeats 4000000
namespace J
open PySem PySem.Spec L2 PyProof.Rows
/-! ### sorted of a list of alike data -/
def sortZ (zs : List (V × PyData)) : List (V × PyData) := zs.mergeSort (PySem.W.dataLe false Prod.snd)
def sortedD (ds : List PyData) : List PyData := ds.mergeSort (PySem.W.dataLe false id)
theorem sortZ_snd (zs : List (V × PyData)) : (sortZ zs).map Prod.snd = sortedD (zs.map Prod.snd) := by
  unfold sortZ sortedD
  exact List.map_mergeSort fun a _ b _ => rfl
def rSortD (K : PySem.W.Frag) : List V → Hp → VK → Prop := fun vs H Q => ∃ (a : Addr) (xs : List V) (ds : List PyData), vs = [V.ref a] ∧ SqL K H a xs ∧ DpAll K H xs ds ∧ PySem.W.AllAlike ds ∧ PySem.W.Sortable ds ∧ (∀ d ∈ ds, d.depth ≤ 60) ∧
  ∀ p, H p = none → Q (.ref p) (upd H p (.lst ((sortZ (xs.zip ds)).map Prod.fst)))
theorem dpAll_len {K : PySem.W.Frag} {H : Hp} : ∀ {xs : List V} {ds : List PyData}, DpAll K H xs ds → xs.length = ds.length
  | _, _, .nil => rfl
  | _, _, .cons _ t => congrArg (· + 1) (dpAll_len t)
theorem eachV {us : List Value} {xs : List V} {ds : List PyData} (rv : Vals xs us) (hl : xs.length = ds.length) : PySem.W.EachIs (fun v (b : V × PyData) => RelV b.1 v) us (xs.zip ds) := by
  induction rv generalizing ds with
  | nil => cases ds with
    | nil => exact .nil
    | cons => cases hl
  | cons h t ih => cases ds with
    | nil => cases hl
    | cons d ds => exact .cons h (ih (by simpa using hl))
theorem eachR {h : Heap} : ∀ {us : List Value} {xs : List V} {ds : List PyData} {as : List Addr}, ReadsAll h us ds as → xs.length = ds.length → PySem.W.EachIs (fun v (b : V × PyData) => ∃ as, Reads h v b.2 as) us (xs.zip ds)
  | _, [], _, _, .nil, _ => .nil
  | _, x :: xs, _, _, .cons h t, hl => .cons ⟨_, h⟩ (eachR t (by simpa using hl))
  | _, [], _, _, .cons h t, hl => by cases hl
  | _, x :: xs, _, _, .nil, hl => by cases hl
theorem each_vals {us : List Value} {bs : List (V × PyData)} (h : PySem.W.EachIs (fun v (b : V × PyData) => RelV b.1 v) us bs) : Vals (bs.map Prod.fst) us := by
  induction h with
  | nil => exact .nil
  | cons h t ih => exact .cons h ih
theorem call_sortD {X : Cx} {K : PySem.W.Frag} (hu : X.A.units + 64 < cLine) (eK : X.K = K := by rfl) : CallR X (.builtin "sorted") (rSortD K) := by
  subst eK
  intro pins s σ H vs us Q I r h
  obtain ⟨a, xs, ds, rfl, hs, hd, al, so, dp, q⟩ := h
  obtain ⟨its, rv, hl, hz⟩ := I.list hs
  obtain ⟨u, rfl, ru⟩ := vals1 r
  obtain rfl : u = Value.ref a := ru
  have hlen := dpAll_len hd
  obtain ⟨as, ra⟩ := Dp.readsAll I ds xs its hd rv
  have ez : (xs.zip ds).map Prod.snd = ds := by rw [← List.unzip_snd, List.unzip_zip hlen]
  refine PySem.W.sorted_data (enc := Prod.snd) hl.isList (eachV rv hlen) (eachR ra hlen) (by rw [ez]; exact al) (by rw [ez]; exact so) (by rw [List.length_zip, ← hlen, Nat.min_self]; exact hz) (fun b hb => by
      have := dp b.2 (by rw [← ez]; exact List.mem_map.mpr ⟨b, hb, rfl⟩)
      omega) fun out ho e => ?_
  obtain ⟨n, hn⟩ := sortedAll_at s.heap its out.toArray
  have rv2 : Vals ((sortZ (xs.zip ds)).map Prod.fst) out := each_vals e
  refine ⟨.ref (s.heap.objs.size + 1), upd H (s.heap.objs.size + 1) (.lst ((sortZ (xs.zip ds)).map Prod.fst)), I.laid (t' := s.toks) (fun b u e => sortedAll_old e) (Nat.le_succ _) ⟨?_, out, n, rv2, hn⟩, rfl, q _ (I.hok.fresh (Nat.le_succ _))⟩
  rw [List.length_map, sortZ, List.length_mergeSort, List.length_zip, ← hlen, Nat.min_self]
  exact hz
theorem DnAll.zip {K : PySem.W.Frag} {S : List Addr} {H : Hp} : ∀ {xs : List V} {ds : List PyData}, DnAll K S H xs ds → ∀ z ∈ xs.zip ds, Dn K S H z.1 z.2
  | _, _, .nil, z, hz => by cases hz
  | _, _, .cons h t, z, hz => by
    rcases List.mem_cons.mp hz with rfl | hz
    · exact h
    · exact DnAll.zip t z hz
theorem DnAll.of_zip {K : PySem.W.Frag} {S : List Addr} {H : Hp} : ∀ {zs : List (V × PyData)}, (∀ z ∈ zs, Dn K S H z.1 z.2) → DnAll K S H (zs.map Prod.fst) (zs.map Prod.snd)
  | [], _ => .nil
  | z :: zs, h => .cons (h z List.mem_cons_self) (DnAll.of_zip fun y hy => h y (List.mem_cons_of_mem _ hy))
theorem DnAll.dp {K : PySem.W.Frag} {S : List Addr} {H : Hp} : ∀ {xs : List V} {ds : List PyData}, DnAll K S H xs ds → DpAll K H xs ds
  | _, _, .nil => .nil
  | _, _, .cons h t => .cons h.dp (DnAll.dp t)
/-- sorted(l): a new list; its items are those of l, its data those of l, sorted -/
theorem r_sortD {K : PySem.W.Frag} {S : List Addr} {H : Hp} {Q : VK} {a : Addr} {xs : List V} {ds : List PyData} (h : SqL K H a xs) (hd : DnAll K S H xs ds) (al : PySem.W.AllAlike ds) (so : PySem.W.Sortable ds) (dp : ∀ d ∈ ds, d.depth ≤ 60)
    (k : ∀ l ys H', H l = none → Same H H' → H' l = some (.lst ys) → DnAll K S H' ys (sortedD ds) → ys.Perm xs → Q (.ref l) H') : rSortD K [.ref a] H Q := by
  have hlen := dpAll_len hd.dp
  refine ⟨a, xs, ds, rfl, h, hd.dp, al, so, dp, fun p hp => ?_⟩
  have s1 : Same H (upd H p (.lst ((sortZ (xs.zip ds)).map Prod.fst))) := (But.new (S := []) hp).same
  have pm : (sortZ (xs.zip ds)).Perm (xs.zip ds) := List.mergeSort_perm _ _
  have ez : (xs.zip ds).map Prod.snd = ds := by rw [← List.unzip_snd, List.unzip_zip hlen]
  have ef : (xs.zip ds).map Prod.fst = xs := by rw [← List.unzip_fst, List.unzip_zip hlen]
  refine k p _ _ hp s1 upd_same ?_ ?_
  · have := DnAll.of_zip (K := K) (S := S) (H := H) (zs := sortZ (xs.zip ds)) fun z hz => hd.zip z (pm.mem_iff.mp hz)
    rw [sortZ_snd, ez] at this
    exact this.same s1
  · have := pm.map Prod.fst
    rw [ef] at this
    exact this
end J

set_option Elab.async false
set_option linter.all false
set_option maxRecDepth 100000
set_option maxHeartbeats 4000000
/-! ### the head by one kernel run; the facts by a Hook of tests -/
namespace J
open PySem PySem.Spec L2 PyProof.Rows
/-- a test of the written part -/
abbrev Fc : Type := PySem.W.Frag → Bool
def mem0 (m : Nat) (a : Nat) : Bool := Nat.testBit m a
/-- each address once -/
def oncesF : List Addr → Nat → List Addr → List Addr × Nat
  | [], m, acc => (acc, m)
  | a :: r, m, acc => match Nat.testBit m a with
    | true => oncesF r m acc
    | false => oncesF r (Nat.lor m (Nat.shiftLeft 1 a)) (a :: acc)
/-- what stands n steps from these names -/
def growJ (g : Addr → Option Obj) : Nat → List Addr → Nat → List Addr → List Addr
  | 0, _, _, acc => acc
  | n + 1, new, m, acc => match oncesF (new.flatMap fun a => match g a with
      | some o => He.refsD o
      | none => []) m [] with
    | (new', m') => growJ g n new' m' (new' ++ acc)
def asJ (g : Addr → Option Obj) (n : Nat) : List Addr := growJ g n [mainGlobals] (Nat.shiftLeft 1 mainGlobals) [cStatics, mainGlobals]
def obsJ (fa : List (List Fc)) (fn : List He.DefD) (K : PySem.W.Frag) : He.AlD := ((fa.all fun l => l.all fun f => f K) && fn.all fun d => d.ok K, fn.map fun d => He.fnW K d.at_)
def SaysJ (fa : List (List Fc)) (fn : List He.DefD) (K : PySem.W.Frag) : Prop := obsJ fa fn K = He.valD fn
def obsJG (n : Nat) (fa : List (List Fc)) (fn : List He.DefD) (g : Addr → Option Obj) : He.AlD := obsJ fa fn (He.frG g (asJ g n))
def hookJ (n : Nat) (fa : List (List Fc)) (fn : List He.DefD) : PySem.W.Hook where
  α := He.AlD
  obs := fun s => obsJG n fa fn s.heap.get?
  val := fun _ => He.valD fn
  says := fun _ h => ∃ K : PySem.W.Frag, K.In h ∧ SaysJ fa fn K
  of := fun _ _ e => ⟨_, He.frG_in, e⟩
  keeps := fun _ _ _ ⟨K, hK, c⟩ k => ⟨K, PySem.W.Frag.In.keeps hK k, c⟩
theorem obsJG_eq {n : Nat} {fa : List (List Fc)} {fn : List He.DefD} {g : Addr → Option Obj} {s : Shared} (h : ∀ a, g a = s.heap.get? a) : obsJG n fa fn g = (hookJ n fa fn).obs s := by
  have e : g = s.heap.get? := funext h
  rw [e] <;> rfl
section
variable {fa : List (List Fc)} {fn : List He.DefD} {K : PySem.W.Frag}
theorem SaysJ.part (c : SaysJ fa fn K) (i : Nat) {l : List Fc} (h : fa[i]? = some l := by rfl) : (l.all fun f => f K) = true := by
  have c1 := (He.ba (show ((fa.all fun l => l.all fun f => f K) && fn.all fun d => d.ok K) = true from congrArg (fun z : He.AlD => z.1) c)).1
  exact List.all_eq_true.mp c1 l (List.mem_of_getElem? h)
theorem SaysJ.def_ (c : SaysJ fa fn K) (i : Nat) {d : He.DefD} (h : fn[i]? = some d := by rfl) : ∃ fd, FunD K d.name d.qual d.params d.body d.scope (d.dvs K) (d.kws K) (He.fAd K d.at_) fd := by
  have c2 := (He.ba (show ((fa.all fun l => l.all fun f => f K) && fn.all fun d => d.ok K) = true from congrArg (fun z : He.AlD => z.1) c)).2
  have e : fn.map (fun d => He.fnW K d.at_) = fn.map He.DefD.val := congrArg (fun z : He.AlD => z.2) c
  have e2 : (fn.map fun d => He.fnW K d.at_)[i]? = (fn.map He.DefD.val)[i]? := by rw [e]
  rw [List.getElem?_map, List.getElem?_map, h] at e2
  exact He.DefD.funD (Option.some.inj e2) (List.all_eq_true.mp c2 d (List.mem_of_getElem? h))
end
/-! ### tests of classes, of exceptions -/
def oexL (K : PySem.W.Frag) (C : Addr) : Bool := match K.lookup C with
  | some ⟨.type "type", _, .cls cd, sl⟩ => (match cd.mro, sl.toList with
    | .ref C' :: bm, [_, _, _, _, some (.builtin n), _] => C' == C && n == "ValueError.__new__" && !cd.hasDel && cd.hasDict && PySem.HandSPX.refsVE bm
    | _, _ => false)
  | _ => false
def oexB (K : PySem.W.Frag) (C : Addr) : Bool := oexL K C && (He.eqO (PySem.W.findIn K (.ref C) "__setattr__") (some (some (.builtin "object.__setattr__"))) && (decide (PySem.W.subIn K (.ref C) (.type "BaseException") = some true) &&
  (decide (PySem.W.typeIn K (.ref C) = some (.type "type")) && PySem.W.keepIn K (.ref C))))
theorem oexL_ok {K : PySem.W.Frag} {C : Addr} (q : oexL K C = true) : ∃ nm qn N bs bm sn sub ab col dd k0 k1 k2 k3 k5, K.lookup C = some (excClassObj nm qn C N bs bm true sn sub ab col dd k0 k1 k2 k3 k5 "ValueError.__new__") ∧ PySem.HandSPX.refsVE bm = true := by
  unfold oexL at q
  split at q
  · rename_i dd cd sl ho
    split at q
    · rename_i C' bm k0 k1 k2 k3 n k5 hm hs
      simp only [Bool.and_eq_true, beq_iff_eq, Bool.not_eq_true'] at q
      obtain ⟨⟨⟨⟨rfl, rfl⟩, hdel⟩, hdi⟩, hb⟩ := q
      obtain ⟨nm, bs, mro, ns, qn, hd, sn, sub, ab, col, del⟩ := cd
      dsimp only at hm hdel hdi
      subst hm hdel hdi
      have hsl : sl = #[k0, k1, k2, k3, some (.builtin "ValueError.__new__"), k5] := by
        obtain ⟨l⟩ := sl
        simp only at hs
        rw [hs]
      subst hsl
      exact ⟨nm, qn, ns, bs, bm, sn, sub, ab, col, dd, k0, k1, k2, k3, k5, ho, hb⟩
    · cases q
  · cases q
theorem oexB_ok {K : PySem.W.Frag} {C : Addr} (h : oexB K C = true) : OexC K C := by
  obtain ⟨h1, h⟩ := He.ba h
  obtain ⟨h2, h⟩ := He.ba h
  obtain ⟨h3, h⟩ := He.ba h
  obtain ⟨h4, h5⟩ := He.ba h
  exact ⟨oexL_ok h1, He.eqO_ok h2, of_decide_eq_true h3, of_decide_eq_true h4, h5⟩
def cfB (x : Option PySem.W.CFound) (v : Value) : Bool := match x with
  | some (.val u) => decide (u = v)
  | _ => false
theorem cfB_ok {x : Option PySem.W.CFound} {v : Value} (h : cfB x v = true) : x = some (.val v) := by
  unfold cfB at h
  split at h
  · rw [of_decide_eq_true h]
  · cases h
/-! ### defs -/
section
variable {P : Program} {w : World} {K : PySem.W.Frag} {mg : Str → Option Value} {base : Heap} {x q y : Str} {st : Stmt} {f : Addr} {fd : FuncData} {ps : List Str}
theorem fun_of (F : FunD K x q (defArgs st) (defBody st) (defScope st) [] [] f fd) : Fun K x q st f fd := by
  obtain ⟨oc, od, dV, kV, doc, pm, an, cdv, ct, osl, rfl, lk, hcd, hD, hK⟩ := F.ex
  rcases hD with ⟨_, rfl⟩ | ⟨e, _⟩
  · exact ⟨⟨oc, od, kV, doc, pm, an, cdv, ct, osl, rfl, lk, hcd⟩, F.kp⟩
  · exact absurd rfl e
theorem kbn_of {n : Nat} {ks : List Str} {g : List Value → List Value → List Value} {gV : List V → List V → List V} (F : Fun K x q st f fd)
    (h : ∀ (kV doc pm : Value) (an : Option Addr) (cdv ct : Value), KBn K (PySem.W.fnOf x q (defArgs st) (defBody st) (defScope st) .none kV doc pm an cdv ct) ps n ks g gV) : KBn K fd ps n ks g gV := by
  obtain ⟨oc, od, kV, doc, pm, an, cdv, ct, osl, rfl, lk, hcd⟩ := F.ex
  exact h kV doc pm an cdv ct
theorem kbn_ofD {n : Nat} {ks : List Str} {kws : List (Str × V)} {g : List Value → List Value → List Value} {gV : List V → List V → List V} (F : FunD K x q (defArgs st) (defBody st) (defScope st) [] kws f fd)
    (h : ∀ (kV doc pm : Value) (an : Option Addr) (cdv ct : Value), KBn K (PySem.W.fnOf x q (defArgs st) (defBody st) (defScope st) .none kV doc pm an cdv ct) ps n ks g gV) : KBn K fd ps n ks g gV := by
  obtain ⟨oc, od, dV, kV, doc, pm, an, cdv, ct, osl, rfl, lk, hcd, hD, hK⟩ := F.ex
  rcases hD with ⟨_, rfl⟩ | ⟨e, _⟩
  · exact h kV doc pm an cdv ct
  · exact absurd rfl e
theorem bindsTo_of (F : Fun K x q st f fd) (h : ∀ (kV doc pm : Value) (an : Option Addr) (cdv ct : Value) (s : Shared) (v : Value), BindsTo s (PySem.W.fnOf x q (defArgs st) (defBody st) (defScope st) .none kV doc pm an cdv ct) ⟨[v], []⟩ [(y, v)]) (s : Shared) (v : Value) : BindsTo s fd ⟨[v], []⟩ [(y, v)] := by
  obtain ⟨oc, od, kV, doc, pm, an, cdv, ct, osl, rfl, lk, hcd⟩ := F.ex
  exact h kV doc pm an cdv ct s v
end
/-- the end of a law over a head by facts -/
theorem walk_ofH {l : PySem.W.OpenLaw} {n k : Nat} {q : Program} {loose : List Str} {XP : (Str → Option Value) → Heap → Prop} {YP : World → Heap → Prop} {d : DefRec} {x : Str}
    (hn : l.most = some n) (hn2 : n ≤ sizeLine) (hdf : d.params.defaults = []) (hr : Room k callerA)
    (F : ∀ (w : World) (mg : Str → Option Value) (fa : Addr) (h : Heap), YP w h → h.Ns mainGlobals mg → mg d.name = some (.ref fa) →
      ∃ (K : PySem.W.Frag) (fd : FuncData) (sp : Sp), K.In h ∧ (∀ (s : Shared) (u : Value), BindsTo s fd ⟨[u], []⟩ [(x, u)]) ∧
        (∀ (H : Hp) (a : Addr) (ns : List Int), ns.length ≤ n → Only H → SqL K H a (ns.map V.int) → sp [.ref a] H (fun v _ => v = .bl true) fun _ _ _ => False) ∧
        ∀ base : Heap, K.In base → base.Ns mainGlobals mg → FnG l.prog w K mg base CX0 k fa fd [x] sp) :
    PySem.W.WalkO q loose XP YP l.row.toRowW d [] (fun f vs => PySem.call f vs) := by
  refine Att.attach_call hn hdf fun w s₀ s₁ mg mb fa o pm cd doc a vs ns G Y ho hd hcd hmg hobj hints hlen hg => ?_
  obtain ⟨K, fd, sp, KX, hb, hsp, hF⟩ := F w mg fa _ Y G.T.g hmg
  exact law_runG KX G.T.g G.T.b G.T.builtins G.T.nolimit hg hobj hints (Nat.le_trans hlen hn2) hr hF hb (fun H hO hS => hsp H a ns hlen hO hS)
end J

set_option Elab.async false
set_option linter.all false
set_option maxRecDepth 100000
set_option maxHeartbeats 0
open PySem L2 PyProof.Rows J
namespace L03H
def top (i : Nat) : Stmt := PySem.Challenge.pw_revokelog_k03_all_crash_choices.main.body.getD i (.Pass ⟨0, 0, 0, 0⟩)
def D0 : He.DefD := ⟨("is_integer", none), "is_integer", "is_integer", defArgs (top 20), defBody (top 20), defScope (top 20), [], []⟩
def D1 : He.DefD := ⟨("is_between", none), "is_between", "is_between", defArgs (top 21), defBody (top 21), defScope (top 21), [], []⟩
def D2 : He.DefD := ⟨("is_value", none), "is_value", "is_value", defArgs (top 22), defBody (top 22), defScope (top 22), [.int 0], []⟩
def D3 : He.DefD := ⟨("LogError", some "__init__"), "__init__", "LogError.__init__", defArgs (inClass (top 1) 0), defBody (inClass (top 1) 0), defScope (inClass (top 1) 0), [.str "invalid"], []⟩
def D4 : He.DefD := ⟨("TooMany", some "__init__"), "__init__", "TooMany.__init__", defArgs (inClass (top 7) 0), defBody (inClass (top 7) 0), defScope (inClass (top 7) 0), [], []⟩
def D5 : He.DefD := ⟨("Disk", some "__init__"), "__init__", "Disk.__init__", defArgs (inClass (top 23) 0), defBody (inClass (top 23) 0), defScope (inClass (top 23) 0), [], []⟩
def D6 : He.DefD := ⟨("Disk", some "check_block"), "check_block", "Disk.check_block", defArgs (inClass (top 23) 2), defBody (inClass (top 23) 2), defScope (inClass (top 23) 2), [], []⟩
def D7 : He.DefD := ⟨("Disk", some "write"), "write", "Disk.write", defArgs (inClass (top 23) 4), defBody (inClass (top 23) 4), defScope (inClass (top 23) 4), [], []⟩
def D8 : He.DefD := ⟨("Disk", some "flush"), "flush", "Disk.flush", defArgs (inClass (top 23) 5), defBody (inClass (top 23) 5), defScope (inClass (top 23) 5), [], []⟩
def D9 : He.DefD := ⟨("Disk", some "durable"), "durable", "Disk.durable", defArgs (inClass (top 23) 7), defBody (inClass (top 23) 7), defScope (inClass (top 23) 7), [], []⟩
def D10 : He.DefD := ⟨("Disk", some "pending"), "pending", "Disk.pending", defArgs (inClass (top 23) 6), defBody (inClass (top 23) 6), defScope (inClass (top 23) 6), [], []⟩
def D11 : He.DefD := ⟨("check_choice", none), "check_choice", "check_choice", defArgs (top 24), defBody (top 24), defScope (top 24), [], []⟩
def D12 : He.DefD := ⟨("beginning_with", none), "beginning_with", "beginning_with", defArgs (top 25), defBody (top 25), defScope (top 25), [], []⟩
def D13 : He.DefD := ⟨("Disk", some "crashed"), "crashed", "Disk.crashed", defArgs (inClass (top 23) 10), defBody (inClass (top 23) 10), defScope (inClass (top 23) 10), [], []⟩
def D14 : He.DefD := ⟨("crash_choices", none), "crash_choices", "crash_choices", defArgs (top 26), defBody (top 26), defScope (top 26), [], []⟩
def D15 : He.DefD := ⟨("_law_cell_at", none), "_law_cell_at", "_law_cell_at", defArgs (top 28), defBody (top 28), defScope (top 28), [], []⟩
def D16 : He.DefD := ⟨("_law_well", none), "_law_well", "_law_well", defArgs (top 29), defBody (top 29), defScope (top 29), [], []⟩
def D17 : He.DefD := ⟨("_law_draw", none), "_law_draw", "_law_draw", defArgs (top 30), defBody (top 30), defScope (top 30), [], []⟩
def D18 : He.DefD := ⟨("_law_all", none), "_law_all", "_law_all", defArgs (top 32), defBody (top 32), defScope (top 32), [], []⟩
def D19 : He.DefD := ⟨("_law_classes_of", none), "_law_classes_of", "_law_classes_of", defArgs (top 33), defBody (top 33), defScope (top 33), [], []⟩
def D20 : He.DefD := ⟨("_law_told", none), "_law_told", "_law_told", defArgs (top 34), defBody (top 34), defScope (top 34), [], []⟩
def D21 : He.DefD := ⟨("law", none), "law", "law", defArgs (top 35), defBody (top 35), defScope (top 35), [], []⟩
def fn0 : List He.DefD := [D0, D1, D2, D3, D4, D5, D6, D7, D8, D9, D10, D11, D12, D13, D14, D15, D16, D17, D18, D19, D20, D21]
def fn : List He.DefD := fn0
def fa0 : List Fc := [fun K => decide (PySem.W.nsIn K mainGlobals "Disk" = some (some (.ref (He.ga K "Disk")))),
  fun K => PySem.W.plainGet K (He.ga K "Disk") Str.empty,
  fun K => PySem.W.hasDictIn K (He.ga K "Disk"),
  fun K => PySem.W.plainOver K (He.ga K "Disk"),
  fun K => decide (PySem.W.findIn K (.ref (He.ga K "Disk")) "__setattr__" = some (some (.builtin "object.__setattr__"))),
  fun K => PySem.W.makesIn K (He.ga K "Disk"),
  fun K => PySem.W.keepIn K (.ref (He.ga K "Disk")),
  fun K => decide (PySem.W.findIn K (.ref (He.ga K "Disk")) "first" = some none),
  fun K => decide (PySem.W.findIn K (.ref (He.ga K "Disk")) "safe" = some none),
  fun K => decide (PySem.W.findIn K (.ref (He.ga K "Disk")) "writes" = some none),
  fun K => decide (PySem.W.findIn K (.ref (He.ga K "Disk")) "deeds" = some none),
  fun K => decide (PySem.W.nsIn K mainGlobals "is_integer" = some (some (.ref (He.ga K "is_integer")))),
  fun K => decide (PySem.W.nsIn K mainGlobals "is_between" = some (some (.ref (He.ga K "is_between")))),
  fun K => decide (PySem.W.nsIn K mainGlobals "is_value" = some (some (.ref (He.ga K "is_value")))),
  fun K => decide (PySem.W.findIn K (.ref (He.ga K "LogError")) "__init__" = some (some (.ref (He.ma K (He.ga K "LogError") "__init__")))),
  fun K => PySem.W.isFn K (.ref (He.ma K (He.ga K "LogError") "__init__")),
  fun K => decide (PySem.W.findIn K (.ref (He.ga K "TooMany")) "__init__" = some (some (.ref (He.ma K (He.ga K "TooMany") "__init__")))),
  fun K => PySem.W.isFn K (.ref (He.ma K (He.ga K "TooMany") "__init__")),
  fun K => decide (PySem.W.findIn K (.ref (He.ga K "Disk")) "__init__" = some (some (.ref (He.ma K (He.ga K "Disk") "__init__")))),
  fun K => PySem.W.isFn K (.ref (He.ma K (He.ga K "Disk") "__init__")),
  fun K => decide (PySem.W.findIn K (.ref (He.ga K "Disk")) "check_block" = some (some (.ref (He.ma K (He.ga K "Disk") "check_block")))),
  fun K => PySem.W.isFn K (.ref (He.ma K (He.ga K "Disk") "check_block")),
  fun K => decide (PySem.W.findIn K (.ref (He.ga K "Disk")) "write" = some (some (.ref (He.ma K (He.ga K "Disk") "write")))),
  fun K => PySem.W.isFn K (.ref (He.ma K (He.ga K "Disk") "write")),
  fun K => decide (PySem.W.findIn K (.ref (He.ga K "Disk")) "flush" = some (some (.ref (He.ma K (He.ga K "Disk") "flush"))))]
def fa1 : List Fc := [fun K => PySem.W.isFn K (.ref (He.ma K (He.ga K "Disk") "flush")),
  fun K => decide (PySem.W.findIn K (.ref (He.ga K "Disk")) "durable" = some (some (.ref (He.ma K (He.ga K "Disk") "durable")))),
  fun K => PySem.W.isFn K (.ref (He.ma K (He.ga K "Disk") "durable")),
  fun K => decide (PySem.W.findIn K (.ref (He.ga K "Disk")) "pending" = some (some (.ref (He.ma K (He.ga K "Disk") "pending")))),
  fun K => PySem.W.isFn K (.ref (He.ma K (He.ga K "Disk") "pending")),
  fun K => decide (PySem.W.nsIn K mainGlobals "check_choice" = some (some (.ref (He.ga K "check_choice")))),
  fun K => decide (PySem.W.nsIn K mainGlobals "beginning_with" = some (some (.ref (He.ga K "beginning_with")))),
  fun K => decide (PySem.W.findIn K (.ref (He.ga K "Disk")) "crashed" = some (some (.ref (He.ma K (He.ga K "Disk") "crashed")))),
  fun K => PySem.W.isFn K (.ref (He.ma K (He.ga K "Disk") "crashed")),
  fun K => decide (PySem.W.nsIn K mainGlobals "crash_choices" = some (some (.ref (He.ga K "crash_choices")))),
  fun K => decide (PySem.W.nsIn K mainGlobals "_law_cell_at" = some (some (.ref (He.ga K "_law_cell_at")))),
  fun K => decide (PySem.W.nsIn K mainGlobals "_law_well" = some (some (.ref (He.ga K "_law_well")))),
  fun K => decide (PySem.W.nsIn K mainGlobals "_law_draw" = some (some (.ref (He.ga K "_law_draw")))),
  fun K => decide (PySem.W.nsIn K mainGlobals "_law_all" = some (some (.ref (He.ga K "_law_all")))),
  fun K => decide (PySem.W.nsIn K mainGlobals "_law_classes_of" = some (some (.ref (He.ga K "_law_classes_of")))),
  fun K => decide (PySem.W.nsIn K mainGlobals "_law_told" = some (some (.ref (He.ga K "_law_told")))),
  fun K => decide (PySem.W.nsIn K mainGlobals "law" = some (some (.ref (He.ga K "law")))),
  fun K => (He.Fa.int "MOST_BLOCKS" 128).ok K,
  fun K => (He.Fa.int "MOST_NESTED" 8).ok K,
  fun K => (He.Fa.int "MOST_CHOSEN" 10).ok K,
  fun K => decide (PySem.W.nsIn K mainGlobals "int" = some none),
  fun K => decide (PySem.W.nsIn K mainGlobals "len" = some none),
  fun K => decide (PySem.W.nsIn K mainGlobals "list" = some none),
  fun K => decide (PySem.W.nsIn K mainGlobals "range" = some none),
  fun K => decide (PySem.W.nsIn K mainGlobals "repr" = some none)]
def fa2 : List Fc := [fun K => decide (PySem.W.nsIn K mainGlobals "tuple" = some none),
  fun K => decide (PySem.W.nsIn K mainGlobals "isinstance" = some none),
  fun K => decide (PySem.W.nsIn K mainGlobals "all" = some none),
  fun K => decide (PySem.W.nsIn K mainGlobals "str" = some none),
  fun K => decide (PySem.W.nsIn K mainGlobals "bool" = some none),
  fun K => decide (PySem.W.nsIn K mainGlobals "ValueError" = some none),
  fun K => decide (PySem.W.nsIn K mainGlobals "enumerate" = some none),
  fun K => decide (PySem.W.nsIn K mainGlobals "sorted" = some none),
  fun K => decide (PySem.W.nsIn K mainGlobals "TooMany" = some (some (.ref (He.ga K "TooMany")))),
  fun K => decide (PySem.W.nsIn K mainGlobals "LogError" = some (some (.ref (He.ga K "LogError")))),
  fun K => decide (PySem.W.nsIn K mainGlobals "BadBlock" = some (some (.ref (He.ga K "BadBlock")))),
  fun K => decide (PySem.W.nsIn K mainGlobals "BadChoice" = some (some (.ref (He.ga K "BadChoice")))),
  fun K => decide (PySem.W.nsIn K mainGlobals "BadCount" = some (some (.ref (He.ga K "BadCount")))),
  fun K => decide (PySem.W.nsIn K mainGlobals "BadLayout" = some (some (.ref (He.ga K "BadLayout")))),
  fun K => decide (PySem.W.nsIn K mainGlobals "BadPath" = some (some (.ref (He.ga K "BadPath")))),
  fun K => decide (PySem.W.nsIn K mainGlobals "BadRule" = some (some (.ref (He.ga K "BadRule")))),
  fun K => decide (PySem.W.nsIn K mainGlobals "BadStep" = some (some (.ref (He.ga K "BadStep")))),
  fun K => decide (PySem.W.nsIn K mainGlobals "BadValue" = some (some (.ref (He.ga K "BadValue")))),
  fun K => decide (PySem.W.nsIn K mainGlobals "HasEntry" = some (some (.ref (He.ga K "HasEntry")))),
  fun K => decide (PySem.W.nsIn K mainGlobals "NoEntry" = some (some (.ref (He.ga K "NoEntry")))),
  fun K => decide (PySem.W.nsIn K mainGlobals "NoRoom" = some (some (.ref (He.ga K "NoRoom")))),
  fun K => decide (PySem.W.nsIn K mainGlobals "NoSpace" = some (some (.ref (He.ga K "NoSpace")))),
  fun K => decide (PySem.W.nsIn K mainGlobals "NotEmpty" = some (some (.ref (He.ga K "NotEmpty")))),
  fun K => PySem.W.isClsIn K (He.ga K "BadBlock"),
  fun K => decide (PySem.W.typeIn K (.ref (He.ga K "BadBlock")) = some (.type "type"))]
def fa3 : List Fc := [fun K => PySem.W.isClsIn K (He.ga K "BadChoice"),
  fun K => decide (PySem.W.typeIn K (.ref (He.ga K "BadChoice")) = some (.type "type")),
  fun K => PySem.W.isClsIn K (He.ga K "BadCount"),
  fun K => decide (PySem.W.typeIn K (.ref (He.ga K "BadCount")) = some (.type "type")),
  fun K => PySem.W.isClsIn K (He.ga K "BadLayout"),
  fun K => decide (PySem.W.typeIn K (.ref (He.ga K "BadLayout")) = some (.type "type")),
  fun K => PySem.W.isClsIn K (He.ga K "BadPath"),
  fun K => decide (PySem.W.typeIn K (.ref (He.ga K "BadPath")) = some (.type "type")),
  fun K => PySem.W.isClsIn K (He.ga K "BadRule"),
  fun K => decide (PySem.W.typeIn K (.ref (He.ga K "BadRule")) = some (.type "type")),
  fun K => PySem.W.isClsIn K (He.ga K "BadStep"),
  fun K => decide (PySem.W.typeIn K (.ref (He.ga K "BadStep")) = some (.type "type")),
  fun K => PySem.W.isClsIn K (He.ga K "BadValue"),
  fun K => decide (PySem.W.typeIn K (.ref (He.ga K "BadValue")) = some (.type "type")),
  fun K => PySem.W.isClsIn K (He.ga K "HasEntry"),
  fun K => decide (PySem.W.typeIn K (.ref (He.ga K "HasEntry")) = some (.type "type")),
  fun K => PySem.W.isClsIn K (He.ga K "NoEntry"),
  fun K => decide (PySem.W.typeIn K (.ref (He.ga K "NoEntry")) = some (.type "type")),
  fun K => PySem.W.isClsIn K (He.ga K "NoRoom"),
  fun K => decide (PySem.W.typeIn K (.ref (He.ga K "NoRoom")) = some (.type "type")),
  fun K => PySem.W.isClsIn K (He.ga K "NoSpace"),
  fun K => decide (PySem.W.typeIn K (.ref (He.ga K "NoSpace")) = some (.type "type")),
  fun K => PySem.W.isClsIn K (He.ga K "NotEmpty"),
  fun K => decide (PySem.W.typeIn K (.ref (He.ga K "NotEmpty")) = some (.type "type")),
  fun K => PySem.W.isClsIn K (He.ga K "LogError")]
def fa4 : List Fc := [fun K => decide (PySem.W.typeIn K (.ref (He.ga K "LogError")) = some (.type "type")),
  fun K => decide (PySem.W.subIn K (.ref (He.ga K "LogError")) (.type "BaseException") = some true),
  fun K => decide (PySem.W.findIn K (.ref (He.ga K "TooMany")) "__class__" = some (some (.builtin "object.__class__"))),
  fun K => decide (PySem.W.mroIn K (He.ga K "TooMany") (.type "object") = some true),
  fun K => decide (PySem.W.subIn K (.ref (He.ga K "TooMany")) (.ref (He.ga K "BadBlock")) = some false),
  fun K => decide (PySem.W.subIn K (.ref (He.ga K "TooMany")) (.ref (He.ga K "BadChoice")) = some false),
  fun K => decide (PySem.W.subIn K (.ref (He.ga K "TooMany")) (.ref (He.ga K "BadCount")) = some false),
  fun K => decide (PySem.W.subIn K (.ref (He.ga K "TooMany")) (.ref (He.ga K "BadLayout")) = some false),
  fun K => decide (PySem.W.subIn K (.ref (He.ga K "TooMany")) (.ref (He.ga K "BadPath")) = some false),
  fun K => decide (PySem.W.subIn K (.ref (He.ga K "TooMany")) (.ref (He.ga K "BadRule")) = some false),
  fun K => decide (PySem.W.subIn K (.ref (He.ga K "TooMany")) (.ref (He.ga K "BadStep")) = some false),
  fun K => decide (PySem.W.subIn K (.ref (He.ga K "TooMany")) (.ref (He.ga K "BadValue")) = some false),
  fun K => decide (PySem.W.subIn K (.ref (He.ga K "TooMany")) (.ref (He.ga K "HasEntry")) = some false),
  fun K => decide (PySem.W.subIn K (.ref (He.ga K "TooMany")) (.ref (He.ga K "NoEntry")) = some false),
  fun K => decide (PySem.W.subIn K (.ref (He.ga K "TooMany")) (.ref (He.ga K "NoRoom")) = some false),
  fun K => decide (PySem.W.subIn K (.ref (He.ga K "TooMany")) (.ref (He.ga K "NoSpace")) = some false),
  fun K => decide (PySem.W.subIn K (.ref (He.ga K "TooMany")) (.ref (He.ga K "NotEmpty")) = some false),
  fun K => decide (PySem.W.subIn K (.ref (He.ga K "TooMany")) (.ref (He.ga K "LogError")) = some true),
  fun K => oexB K (He.ga K "TooMany"),
  fun K => decide (PySem.W.findIn K (.ref (He.ga K "TooMany")) "__setattr__" = some (some (.builtin "object.__setattr__"))),
  fun K => decide (PySem.W.findIn K (.ref (He.ga K "TooMany")) "__getattribute__" = some (some (.builtin "BaseException.__getattribute__"))),
  fun K => decide (PySem.W.findIn K (.ref (He.ga K "TooMany")) "__getattr__" = some none),
  fun K => PySem.W.keepIn K (.ref (He.ga K "TooMany")),
  fun K => decide (PySem.W.subIn K (.ref (He.ga K "TooMany")) (.type "BaseException") = some true),
  fun K => decide (PySem.W.typeIn K (.ref (He.ga K "TooMany")) = some (.type "type"))]
def fa5 : List Fc := [fun K => PySem.W.hasDictIn K (He.ga K "TooMany"),
  fun K => PySem.W.isClsIn K (He.ga K "TooMany"),
  fun K => decide (PySem.W.subIn K (.ref (He.ga K "TooMany")) (.ref (He.ga K "TooMany")) = some true),
  fun K => decide (PySem.W.findIn K (.ref (He.ga K "TooMany")) "why" = some none),
  fun K => decide (PySem.W.findIn K (.ref (He.ga K "TooMany")) "limit" = some none),
  fun K => decide (PySem.W.typeIn K (.ref (He.ma K (He.ga K "TooMany") "__init__")) = some (.type "function")),
  fun K => PySem.W.readsIn K (He.ga K "LogError") (.type "type"),
  fun K => decide (PySem.W.specialIn K (.ref (He.ga K "LogError")) "__getattribute__" = some (some (.builtin "type.__getattribute__"))),
  fun K => cfB (PySem.W.findCls K (.ref (He.ga K "LogError")) (.type "type") "__init__") (.ref (He.ma K (He.ga K "LogError") "__init__")),
  fun K => decide (PySem.W.specialIn K (.builtin "object.__class__") "__get__" = some (some (.builtin "getset_descriptor.__get__"))),
  fun K => decide (PySem.W.takesIn K (.builtin "object.__class__") = some true),
  fun K => cfB (PySem.W.findCls K (.type "ValueError") (.type "type") "__init__") (.builtin "ValueError.__init__")]
def fb0 : List (List Fc) := [fa0, fa1, fa2, fa3, fa4, fa5]
def fa : List (List Fc) := fb0
def nm0 : List PySem.Str := ["LogError", "BadLayout", "BadBlock", "BadValue", "BadCount", "BadChoice", "TooMany", "NoSpace", "BadPath", "NoEntry", "HasEntry", "NotEmpty", "NoRoom", "BadRule", "BadStep", "MOST_BLOCKS", "MOST_NESTED", "MOST_CHOSEN", "is_integer", "is_between", "is_value", "Disk", "check_choice", "beginning_with", "crash_choices", "_law_cell_at", "_law_well", "_law_draw", "_law_one", "_law_all"]
def nm1 : List PySem.Str := ["_law_classes_of", "_law_told"]
def names : List PySem.Str := nm0 ++ nm1
abbrev R : PySem.W.OpenRow := PySem.W.OpenLaw.row PySem.Challenge.rw_revokelog_k03_all_crash_choices
abbrev hk : PySem.W.Hook := hookJ 4 fa fn
def ob (s : PySem.W.SharedT) : He.AlD := obsJG 4 fa fn (HandSHeadRun.getT s)
theorem ob_eq (s : PySem.W.SharedT) : ob s = hk.obs s.abs := obsJG_eq (HandSHeadRun.getT_eq s)
theorem run (w : World) : HandSHeadRun.RunEq R (PySem.W.view R.prog [35]) hk ob 6000 names w := by
  intro os
  kernel_rfl
end L03H

set_option Elab.async false
set_option linter.all false
set_option maxRecDepth 100000
set_option maxHeartbeats 4000000
open PySem L2 PyProof.Rows J
local macro_rules | `(tactic| walk_at "lv") => `(tactic| first
  | assumption
  | (refine J.lv_same (by assumption) ?_; walk_at "lv")
  | (refine J.lv_but (by assumption) ?_; walk_at "lv")
  | (refine J.live_of (by assumption)))
local macro_rules | `(tactic| walk_at "ne") => `(tactic| first
  | assumption
  | (apply Ne.symm; assumption)
  | (refine J.ne_live ?_ (by assumption); walk_at "lv")
  | (apply Ne.symm; refine J.ne_live ?_ (by assumption); walk_at "lv"))
local macro_rules | `(tactic| walk_at "ni") => `(tactic| first
  | assumption
  | exact List.not_mem_nil
  | (refine J.ni_cons ?_ ?_; walk_at "ne"; walk_at "ni"))
local macro_rules | `(tactic| walk_at "hp") => `(tactic| first
  | assumption
  | exact upd_same
  | (apply J.same_at; assumption; walk_at "hp")
  | (apply J.but_at; assumption; walk_at "hp"; walk_at "ni")
  | (apply J.but_tup; assumption; walk_at "hp"))
local macro_rules | `(tactic| walk_at "sq") => `(tactic| first
  | assumption
  | (apply SqL.of; walk_at "hp")
  | (apply SqT.of; walk_at "hp")
  | (apply J.same_sqL; assumption; walk_at "sq")
  | (apply J.same_sqT; assumption; walk_at "sq")
  | (apply J.but_sqT; assumption; walk_at "sq")
  | (apply J.but_sqL; assumption; walk_at "sq"; walk_at "ni"))
local macro_rules | `(tactic| walk_at "dn") => `(tactic| first
  | assumption
  | exact J.Dn.int _
  | exact J.Dn.str _
  | exact J.Dn.non
  | exact J.Dn.bl _
  | (refine J.Dn.tup (by walk_at "sq") ?_; walk_at "da")
  | (refine J.dn_same (by assumption) ?_; walk_at "dn")
  | (refine J.dn_but (by assumption) ?_ ?_; walk_at "dn"; walk_at "nis"))
local macro_rules | `(tactic| walk_at "da") => `(tactic| first
  | assumption
  | exact J.DnAll.nil
  | (refine J.DnAll.cons ?_ ?_; walk_at "dn"; walk_at "da")
  | (refine J.da_same (by assumption) ?_; walk_at "da")
  | (refine J.da_but (by assumption) ?_ ?_; walk_at "da"; walk_at "nis"))
local macro_rules | `(tactic| walk_at "nis") => `(tactic| first
  | exact J.sub_nil
  | (refine J.sub_cons ?_ ?_; walk_at "mem"; walk_at "nis"))
local macro_rules | `(tactic| walk_at "le") => `(tactic| first
  | exact J.Le.refl
  | (refine J.le_same ?_ (by assumption); walk_at "le")
  | (refine J.le_but ?_ (by assumption); walk_at "le"))
local macro_rules | `(tactic| walk_at "fr") => `(tactic| first
  | assumption
  | (refine J.fr_le ?_ (by assumption); walk_at "le"))
local macro_rules | `(tactic| walk_at "mem") => `(tactic| with_reducible first
  | exact List.mem_cons_self
  | (refine List.mem_cons_of_mem _ ?_; walk_at "mem"))
local macro_rules | `(tactic| walk_at "bc") => `(tactic| first
  | exact J.bc_nil
  | (refine J.bc_in ?_ ?_; walk_at "mem"; walk_at "bc")
  | (refine J.bc_fr ?_ ?_; walk_at "fr"; walk_at "bc"))
local macro_rules | `(tactic| walk_at "bt") => `(tactic| first
  | exact J.But.refl
  | (refine J.bt_same ?_ (by assumption); walk_at "bt")
  | (refine J.bt_but ?_ (by assumption) ?_; walk_at "bt"; walk_at "bc"))
local macro_rules | `(tactic| walk_at "sm") => `(tactic| (refine J.But.same ?_; walk_at "bt"))
local macro_rules | `(tactic| walk_at "sd") => `(tactic| first
  | assumption
  | decide
  | omega
  | (unfold CDiv; omega)
  | (unfold CPow; omega)
  | (unfold CMul; omega))
local macro_rules | `(tactic| walk_at "s") => `(tactic| with_reducible first
  | refine J.r_seq ?_
  | refine J.r_asg ?_
  | refine J.r_drop ?_
  | refine J.r_ret ?_
  | refine J.r_retN ?_
  | refine J.r_ifS ?_
  | refine J.r_next ?_
  | refine J.r_test ?_
  | refine J.r_tB ?_
  | refine J.r_exb ?_
  | refine J.r_op ?_
  | refine J.r_un ?_
  | refine J.r_var rfl ?_
  | refine J.r_c ?_
  | refine J.r_I0 ?_
  | refine J.r_addI ?_
  | refine J.r_eqI ?_
  | refine J.r_neI ?_
  | refine J.r_ltI ?_
  | refine J.r_eqS ?_
  | refine J.r_neS ?_
  | refine J.r_cons ?_
  | refine J.r_nil ?_
  | refine J.r_tup ?_
  | refine J.r_lst ?_
  | refine J.r_CB ?_
  | refine J.r_callS ?_
  | refine J.r_if ?_
  | refine J.r_and ?_
  | refine J.r_or ?_
  | refine J.r_not ?_
  | refine J.r_aug rfl ?_
  | refine J.r_iaddI ?_
  | refine J.g_name ?_
  | refine J.g_cons ?_
  | refine J.g_nil ?_
  | refine J.r_I (by walk_at "sd") ?_
  | refine J.r_mulI (by walk_at "sd") ?_
  | (apply J.r_ixL; walk_at "sq"; first | exact J.at0 | exact J.at1 | exact J.at2 | with_unfolding_all rfl)
  | (apply J.r_ixT; walk_at "sq"; first | exact J.at0 | exact J.at1 | exact J.at2 | with_unfolding_all rfl)
  | refine J.r_forL ?_
  | refine J.r_forR ?_
  | refine J.r_forR2 ?_
  | refine J.r_forE ?_
  | refine J.r_lcL ?_
  | refine J.r_bm ?_
  | (apply J.r_tyL; walk_at "sq")
  | (apply J.r_lenL; walk_at "sq")
  | refine J.r_asgG ?_
  | refine J.g_sub ?_
  | (apply J.g_tup; walk_at "sq"; with_unfolding_all rfl)
  | refine J.r_dget2 ?_
  | refine J.r_dput ?_
  | refine J.r_dget ?_
  | refine J.r_din ?_
  | refine J.r_dnin ?_
  | refine J.r_dpop2 ?_
  | refine J.r_dpop1 ?_
  | (apply J.r_isD; walk_at "hp")
  | refine J.r_max2 ?_
  | refine J.r_sl ?_
  | refine J.r_noPart ?_
  | refine J.r_part ?_
  | refine J.r_exi ?_
  | refine J.r_listItems ?_
  | refine J.r_par ?_
  | refine J.r_andV ?_
  | refine J.r_notV ?_
  | refine J.r_orV ?_
  | refine J.r_leI ?_
  | refine J.r_chain ?_
  | refine J.r_isNn ?_
  | refine J.r_notNn ?_
  | refine J.r_truB ?_
  | refine J.r_truA ?_
  | refine J.r_fld ?_
  | refine J.r_sfld ?_
  | refine J.r_sfldaug ?_
  | refine J.r_meth ?_
  | refine J.r_methS ?_
  | refine J.r_mkO ?_
  | refine J.r_ost ?_
  | refine J.r_veI ?_
  | refine J.r_lcR3 ?_
  | refine J.r_make ?_
  | refine J.r_callD ?_
  | refine J.r_kw ?_
  | refine J.r_kwAt (by with_unfolding_all rfl) (by with_unfolding_all rfl) ?_
  | refine J.r_lcZ ?_
  | refine J.r_lcT ?_
  | refine J.r_forT ?_
  | refine J.r_bm0 ?_
  | (apply J.r_fldAt; walk_at "hp"; assumption; assumption; with_unfolding_all rfl)
  | refine J.r_ex2 ?_)
local macro_rules | `(tactic| walk_at "st") => `(tactic| first
  | walk_at "s"
  | ((with_reducible refine J.r_newT (J.sz (Nat.le_of_ble_eq_true rfl)) ?_); intro _ _ _ _ _))
local macro_rules | `(tactic| walk_at "to") => `(tactic| repeat ((fail_if_success (with_reducible refine J.r_seq ?_)); walk_at "s"))

namespace L03
def top (i : Nat) : Stmt := PySem.Challenge.pw_revokelog_k03_all_crash_choices.main.body.getD i (.Pass ⟨0, 0, 0, 0⟩)
structure Bl (mg : Str → Option Value) : Prop where
  int : mg "int" = none
  len : mg "len" = none
  list : mg "list" = none
  range : mg "range" = none
  repr : mg "repr" = none
  tuple : mg "tuple" = none
  isinstance : mg "isinstance" = none
  all : mg "all" = none
  str : mg "str" = none
  bool : mg "bool" = none
  ValueError : mg "ValueError" = none
  enumerate : mg "enumerate" = none
  sorted : mg "sorted" = none
structure Gi (mg : Str → Option Value) : Prop where
  MOST_BLOCKS : ∃ tk, mg "MOST_BLOCKS" = some (.int 128 tk)
  MOST_NESTED : ∃ tk, mg "MOST_NESTED" = some (.int 8 tk)
  MOST_CHOSEN : ∃ tk, mg "MOST_CHOSEN" = some (.int 10 tk)
structure TDisk (K : PySem.W.Frag) (C : Addr) : Prop where
  cl : Cls K C
  n1 : NoAttr K C "first"
  n2 : NoAttr K C "safe"
  n3 : NoAttr K C "writes"
  n4 : NoAttr K C "deeds"
section
variable {P : Program} {w : World} {K : PySem.W.Frag} {mg : Str → Option Value} {base : Heap} {CDisk : Addr}
/-! ### is_integer, is_between, is_value -/
def spIsInt (K : PySem.W.Frag) : Sp := fun vs H Q _ => ∃ x S d, vs = [x] ∧ Dn K S H x d ∧ Q (.bl (intB d)) H
abbrev s_is_integer : Stmt := top 20
abbrev N_is_integer : List Str := ["value"]
theorem sc_is_integer : FnScope N_is_integer ["value"] (defScope s_is_integer) :=
  ⟨rfl, rfl, rfl, by decide +kernel, rfl, by decide +kernel, by decide +kernel⟩

theorem ok_is_integer {f : Addr} {fd : FuncData} (F : Fun K "is_integer" "is_integer" s_is_integer f fd) (B : Bl mg) :
    FnOk P w K mg base CX0 1 f fd ["value"] (spIsInt K) := by
  refine F.ok sc_is_integer (fun vs H Q E h => ?_) (fun cdv A outer s H vs Q E hr h => ?_)
  · obtain ⟨_, _, _, rfl, _⟩ := h
    rfl
  · obtain ⟨x, S, d, rfl, hx, k⟩ := h
    have hu := hu_of hr
    have nd := sc_is_integer.nd
    refine ⟨_, (pss_one (ps_ret (pe_and (pe_callB (call_isiA (K := K)) rfl B.isinstance (by decide +kernel) (pa_cons (pv 0) (pa_cons (pe_tyN (T := "int") rfl B.int (by decide +kernel)) pa_nil))) (pe_one (pe_not (pe_callB (call_isiA (K := K)) rfl B.isinstance (by decide +kernel) (pa_cons (pv 0) (pa_cons (pe_tyN (T := "bool") rfl B.bool (by decide +kernel)) pa_nil)))))))), ?_⟩
    repeat walk_at "s"
    refine r_isInt hx ?_
    repeat walk_at "s"
    refine r_iteB (fun e => ?_) (fun e => ?_)
    · repeat walk_at "s"
      refine r_isBool hx ?_
      repeat walk_at "s"
      cases d <;> first | exact k | (simp [isIntD] at e; done)
    · cases d <;> first | exact k | (simp [isIntD] at e; done)
def spBet (K : PySem.W.Frag) : Sp := fun vs H Q _ => ∃ x S d lo hi, vs = [x, .int lo, .int hi] ∧ Dn K S H x d ∧ Q (.bl (betB d lo hi)) H
abbrev s_is_between : Stmt := top 21
abbrev N_is_between : List Str := ["value", "low", "high"]
theorem sc_is_between : FnScope N_is_between ["value", "low", "high"] (defScope s_is_between) :=
  ⟨rfl, rfl, rfl, by decide +kernel, rfl, by decide +kernel, by decide +kernel⟩

theorem ok_is_between {f : Addr} {fd : FuncData} (F : Fun K "is_between" "is_between" s_is_between f fd) (C_is_integer : Cl P w K mg base CX0 1 "is_integer" (spIsInt K)) :
    FnOk P w K mg base CX0 2 f fd ["value", "low", "high"] (spBet K) := by
  refine F.ok sc_is_between (fun vs H Q E h => ?_) (fun cdv A outer s H vs Q E hr h => ?_)
  · obtain ⟨_, _, _, _, _, rfl, _⟩ := h
    rfl
  · obtain ⟨x, S, d, lo, hi, rfl, hx, k⟩ := h
    have hu := hu_of hr
    have nd := sc_is_between.nd
    refine ⟨_, (pss_one (ps_ret (pe_and (pe_cl (E := fun _ => E0) C_is_integer hr (by decide) pass00 (pa_cons (pv 0) pa_nil)) (pe_one (pe_chain op_le op_le (pv 1) (pv 0) (pv 2)))))), ?_⟩
    repeat walk_at "s"
    refine ⟨x, S, d, rfl, hx, ?_⟩
    repeat walk_at "s"
    refine r_iteB (fun e => ?_) (fun e => ?_)
    · obtain ⟨i, rfl⟩ : ∃ i, d = .int i := by
        cases d <;> first | exact ⟨_, rfl⟩ | (simp [intB] at e; done)
      obtain rfl := hx.int_inv
      repeat walk_at "s"
      refine r_ite (fun h1 => ?_) (fun h1 => ?_)
      · repeat walk_at "s"
        have e2 : betB (.int i) lo hi = decide (i ≤ hi) := by simp [betB, h1]
        rw [e2] at k
        exact k
      · have e2 : betB (.int i) lo hi = false := by simp [betB, h1]
        rw [e2] at k
        exact k
    · have e2 : betB d lo hi = false := by
        cases d <;> first | rfl | (simp [intB] at e; done)
      rw [e2] at k
      exact k
def spVal (K : PySem.W.Frag) (m : Nat) : Sp := fun vs H Q _ => ∃ (x : V) (S : List Addr) (d : PyData) (dep : Nat), vs = [x, .int dep] ∧ Dn K S H x d ∧ slim d = true ∧ dep ≤ 8 ∧ 9 ≤ dep + m ∧
  ∀ H', Same H H' → Q (.bl (valB d dep)) H'
abbrev s_is_value : Stmt := top 22
abbrev N_is_value : List Str := ["value", "depth", "one"]
theorem sc_is_value : FnScope N_is_value ["value", "depth"] (defScope s_is_value) :=
  ⟨rfl, rfl, rfl, by decide +kernel, rfl, by decide +kernel, by decide +kernel⟩

theorem ok_is_value {f : Addr} {fd : FuncData} {dvs : List V} {kws : List (Str × V)} (F : FunD K "is_value" "is_value" (defArgs s_is_value) (defBody s_is_value) (defScope s_is_value) dvs kws f fd) (B : Bl mg) (G : Gi mg) {m : Nat}
    (C_is_integer : Cl P w K mg base CX0 1 "is_integer" (spIsInt K)) (C_is_value : Cl P w K mg base CX0 (m + 1) "is_value" (spVal K m)) :
    FnOk P w K mg base CX0 (m + 2) f fd ["value", "depth"] (spVal K (m + 1)) := by
  refine F.ok sc_is_value (fun vs H Q E h => ?_) (fun cdv A outer s H vs Q E hr h => ?_)
  · obtain ⟨_, _, _, _, rfl, _⟩ := h
    rfl
  · obtain ⟨x, S, d, dep, rfl, hx, hsl, hd, hm, k⟩ := h
    have hr : Room (m + 1) _ := hr
    have hr1 : Room 1 _ := hr.mono (by omega)
    have hu := hu_of hr
    have nd := sc_is_value.nd
    refine ⟨_, (pss_cons (ps_if (pt_tru (K := K) (pe_callB (call_isiA (K := K)) rfl B.isinstance (by decide +kernel) (pa_cons (pv 0) (pa_cons (pe_tyN (T := "tuple") rfl B.tuple (by decide +kernel)) pa_nil)))) (pss_one (ps_ret (pe_and (pe_cmpR op_ltA (pv 1) (pe_gintE rfl G.MOST_NESTED) (nomark _)) (pe_one (pe_callB (call_allA (K := K) rfl) rfl B.all (by decide +kernel) (pa_cons (pe_lc (own := [("one", 2)]) (g := (gName 2)) (tt := tYes) rfl nd (pi_tpl (K := K) (pv 0)) (blkOk_by (own := [("one", 2)]) (N := N_is_value) (sc := defScope s_is_value) (by decide +kernel)) (fun _ _ _ _ _ => (pg_name (i := 2) nd rfl (by first | exact Or.inl rfl | exact Or.inr rfl))) (fun _ _ _ _ _ => pts_nil) (fun _ _ _ _ _ => pe_cl (E := fun _ => E0) C_is_value hr (by omega) pass00 (pa_cons (pv 2) (pa_cons (pe_op (op_addA (K := K)) (pv 1) pe_int) pa_nil)))) pa_nil)))))) pss_nil)
      (pss_one (ps_ret (pe_or (pe_cl (E := fun _ => E0) C_is_integer hr (by omega) pass00 (pa_cons (pv 0) pa_nil)) (pe_one (pe_callB (call_isiA (K := K)) rfl B.isinstance (by decide +kernel) (pa_cons (pv 0) (pa_cons (pe_tyN (T := "str") rfl B.str (by decide +kernel)) pa_nil)))))))), ?_⟩
    repeat walk_at "s"
    refine r_isTup hx ?_
    repeat walk_at "s"
    refine r_iteB (fun e => ?_) (fun e => ?_)
    · obtain ⟨ds, rfl⟩ : ∃ ds, d = .tuple ds := by
        cases d <;> first | exact ⟨_, rfl⟩ | (simp [isTupD] at e; done)
      obtain ⟨a, xs, rfl, ha, hxs⟩ := hx.tup_inv
      have hlen : xs.length = ds.length := hxs.length
      have ev : valB (.tuple ds) dep = (decide (dep < 8) && valsB ds (dep + 1)) := rfl
      repeat walk_at "s"
      refine r_ite (fun hd8 => ?_) (fun hd8 => ?_)
      · have hd8' : dep < 8 := by omega
        repeat walk_at "s"
        refine lcT ha (fun l H1 hl s1 hl1 => ?_)
        refine ⟨fun j H' => But [l] H1 H' ∧ H' l = some (.lst (((ds.take j).map fun d => valB d (dep + 1)).map V.bl)), ⟨.refl, hl1⟩, ?_, ?_, ?_⟩
        · rintro j H2 hj ⟨b2, hl2⟩
          exact b2.sqT ((But.of_same (S := []) s1).sqT ha)
        · rintro j y H2 hj ⟨b2, hl2⟩
          obtain ⟨dy, hdy, hy⟩ := hxs.get hj
          obtain ⟨hz, hsl2⟩ := slim_tup hsl
          have hjl : j < xs.length := (List.getElem?_eq_some_iff.mp hj).1
          repeat walk_at "s"
          refine ⟨rfl, ?_⟩
          refine r_yes ?_
          refine r_iteT rfl ?_
          repeat walk_at "s"
          have hy2 : Dn K (l :: S) H2 y dy := ((hy.fresh hl).same s1).but b2 (by walk_at "nis")
          refine ⟨y, l :: S, dy, dep + 1, rfl, hy2, slims_mem hsl2 (List.mem_of_getElem? hdy), by omega, by omega, fun H3 s3 => ?_⟩
          refine ⟨_, s3 _ _ hl2, szl (by simp only [List.length_map, List.length_take]; omega), ?_⟩
          obtain ⟨H4, e4, b4, hl4⟩ := upd_ex (o' := .lst ((((ds.take j).map fun d => valB d (dep + 1)).map V.bl) ++ [.bl (valB dy (dep + 1))])) (s3 _ _ hl2)
          rw [e4]
          refine ⟨b2.trans ((But.of_same s3).trans b4), ?_⟩
          rw [hl4, List.take_add_one, hdy, List.map_append, List.map_append]
          rfl
        · rintro H2 ⟨b2, hl2⟩
          rw [hlen, List.take_length] at hl2
          refine ⟨l, _, rfl, .of hl2, ?_⟩
          have e2 : (ds.map fun d => valB d (dep + 1)).all id = valsB ds (dep + 1) := by
            rw [valsB_all, List.all_map]; rfl
          rw [e2]
          rw [ev, decide_eq_true hd8', Bool.true_and] at k
          exact k H2 (by walk_at "sm")
      · rw [ev, decide_eq_false (by omega), Bool.false_and] at k
        exact k H fun _ _ e => e
    · repeat walk_at "s"
      refine ⟨x, S, d, rfl, hx, ?_⟩
      repeat walk_at "s"
      refine r_iteB (fun e => ?_) (fun e => ?_)
      · repeat walk_at "s"
        have e2 : valB d dep = true := by
          cases d <;> first | rfl | (simp [intB] at *; done)
        rw [e2] at k
        exact k H fun _ _ e => e
      · repeat walk_at "s"
        refine r_isStr hx ?_
        have e2 : valB d dep = isStrD d := by
          cases d <;> first | rfl | (simp [intB, isTupD] at *; done)
        rw [← e2]
        exact k H fun _ _ e => e
end
end L03

open PySem L2 PyProof.Rows J

namespace L03
section
variable {P : Program} {w : World} {K : PySem.W.Frag} {mg : Str → Option Value} {base : Heap} {CDisk : Addr}
theorem bet_iff {i lo hi : Int} : betB (.int i) lo hi = true ↔ lo ≤ i ∧ i ≤ hi := by simp [betB]
/-! ### disks -/
def spDiskInit (K : PySem.W.Frag) (CDisk : Addr) : Sp := fun vs H Q _ => ∃ (d dx : Addr) (n : Nat), vs = [.ref d, .int n] ∧ H d = some (.ins CDisk dx []) ∧ 1 ≤ n ∧ n ≤ 128 ∧
  ∀ ls H', Fr ls H → But [d] H H' → DiskAt K CDisk H' d (d :: ls) n 0 (DM.new n) → Q .non H'
theorem rep_zeros (n : Nat) : (List.replicate n [V.int 0]).flatten = List.replicate n (V.int 0) := by
  induction n with
  | zero => rfl
  | succ n ih => rw [List.replicate_succ, List.flatten_cons, ih]; rfl
theorem dn_zeros {S : List Addr} {H : Hp} : ∀ n : Nat, DnAll K S H (List.replicate n (V.int 0)) (zeros n)
  | 0 => .nil
  | n + 1 => by
    show DnAll K S H (List.replicate (n + 1) (V.int 0)) (List.replicate (n + 1) (PyData.int 0))
    rw [List.replicate_succ, List.replicate_succ]
    exact .cons (.int _) (dn_zeros n)
theorem r_rep {H : Hp} {Q : VK} {p : Addr} {n : Nat} {xs : List V} (h : H p = some (.lst xs)) (c : n < 1000000) (c2 : xs.length * n ≤ 16777216)
    (k : ∀ l H', H l = none → Same H H' → H' l = some (.lst (List.replicate n xs).flatten) → Q (.ref l) H') : rMulA K (.ref p) (.int n) H Q := by
  refine .inr (.inl ⟨p, n, xs, rfl, rfl, h, by omega, by omega, sz c2, fun l hl => ?_⟩)
  exact k l _ hl (But.new (S := []) hl).same upd_same
abbrev s_Disk_init : Stmt := inClass (top 23) 0
abbrev N_Disk_init : List Str := ["self", "blocks"]
theorem sc_Disk_init : FnScope N_Disk_init ["self", "blocks"] (defScope s_Disk_init) :=
  ⟨rfl, rfl, rfl, by decide +kernel, rfl, by decide +kernel, by decide +kernel⟩

theorem ok_Disk_init {f : Addr} {fd : FuncData} (F : Fun K "__init__" "Disk.__init__" s_Disk_init f fd) (G : Gi mg) (T : TDisk K CDisk) (C_is_between : ClK P w K mg base CX0 2 "is_between" 1 ["low", "high"] (spBet K)) :
    FnOk P w K mg base CX0 3 f fd ["self", "blocks"] (spDiskInit K CDisk) := by
  refine F.ok sc_Disk_init (fun vs H Q E h => ?_) (fun cdv A outer s H vs Q E hr h => ?_)
  · obtain ⟨_, _, _, rfl, _⟩ := h
    rfl
  · obtain ⟨d, dx, n, rfl, hd, hn1, hn2, k⟩ := h
    have hu := hu_of hr
    have nd := sc_Disk_init.nd
    obtain ⟨cl, n1, n2, n3, n4⟩ := T
    refine ⟨_, (pss_cons (ps_if (pt_not (pt_tru (K := K) (pe_clK C_is_between hr (by decide) (pa_cons (pv 1) pa_nil) (pk_cons pe_int (pk_cons (pe_gintE rfl G.MOST_BLOCKS) pk_nil))))) (pss_one (ps_dead)) pss_nil)
      (pss_cons (ps_fldA (K := K) (pv 0) (pe_op (op_mulA (K := K)) (pe_lst (pa_cons pe_int pa_nil)) (pv 1)))
      (pss_cons (ps_fldA (K := K) (pv 0) (pe_op (op_mulA (K := K)) (pe_lst (pa_cons pe_int pa_nil)) (pv 1)))
      (pss_cons (ps_fldA (K := K) (pv 0) (pe_lst pa_nil))
      (pss_one (ps_fldA (K := K) (pv 0) (pe_lst pa_nil))))))), ?_⟩
    repeat walk_at "s"
    refine ⟨_, [], .int n, 1, 128, rfl, .int _, ?_⟩
    repeat walk_at "s"
    rw [bet_iff.mpr ⟨by omega, by omega⟩]
    refine r_iteF rfl ?_
    repeat walk_at "s"
    refine r_newL (sz (Nat.le_of_ble_eq_true rfl)) (fun z1 H1 hz1 s1 hz11 => ?_)
    repeat walk_at "s"
    refine r_rep hz11 (by omega) (by simp; omega) (fun l1 H2 hl1 s2 hl12 => ?_)
    rw [rep_zeros] at hl12
    repeat walk_at "s"
    refine r_setAt (by walk_at "hp") cl n1 (Nat.le_of_ble_eq_true rfl) (fun H3 b3 hd3 => ?_)
    repeat walk_at "s"
    refine r_newL (sz (Nat.le_of_ble_eq_true rfl)) (fun z2 H4 hz2 s4 hz24 => ?_)
    repeat walk_at "s"
    refine r_rep hz24 (by omega) (by simp; omega) (fun l2 H5 hl2 s5 hl25 => ?_)
    rw [rep_zeros] at hl25
    repeat walk_at "s"
    refine r_setAt (by walk_at "hp") cl n2 (Nat.le_of_ble_eq_true rfl) (fun H6 b6 hd6 => ?_)
    repeat walk_at "s"
    refine r_newL (sz (Nat.le_of_ble_eq_true rfl)) (fun l3 H7 hl3 s7 hl37 => ?_)
    repeat walk_at "s"
    refine r_setAt (by walk_at "hp") cl n3 (Nat.le_of_ble_eq_true rfl) (fun H8 b8 hd8 => ?_)
    repeat walk_at "s"
    refine r_newL (sz (Nat.le_of_ble_eq_true rfl)) (fun l4 H9 hl4 s9 hl49 => ?_)
    repeat walk_at "s"
    refine r_setAt (by walk_at "hp") cl n4 (Nat.le_of_ble_eq_true rfl) (fun H10 b10 hd10 => ?_)
    have lvd : H d ≠ none := live_of hd
    have a1 : l1 ≠ d := by walk_at "ne"
    have a2 : l2 ≠ d := by walk_at "ne"
    have a3 : l3 ≠ d := by walk_at "ne"
    have a4 : l4 ≠ d := by walk_at "ne"
    have f1 : H10 l1 = some (.lst (List.replicate n (V.int 0))) := by walk_at "hp"
    have f2 : H10 l2 = some (.lst (List.replicate n (V.int 0))) := by walk_at "hp"
    have f3 : H10 l3 = some (.lst []) := by walk_at "hp"
    have f4 : H10 l4 = some (.lst []) := by walk_at "hp"
    have d12 : l1 ≠ l2 := by walk_at "ne"
    have d13 : l1 ≠ l3 := by walk_at "ne"
    have d14 : l1 ≠ l4 := by walk_at "ne"
    have d23 : l2 ≠ l3 := by walk_at "ne"
    have d24 : l2 ≠ l4 := by walk_at "ne"
    have d34 : l3 ≠ l4 := by walk_at "ne"
    refine k [l1, l2, l3, l4] H10 ?_ (by walk_at "bt") ⟨DOk.new hn1 hn2, dx, l1, l2, l3, l4, _, _, _, _, rfl, ?_, hd10, f1, f2, f3, f4, dn_zeros n, dn_zeros n, .nil, .nil⟩
    · intro t ht
      simp only [List.mem_cons, List.not_mem_nil, or_false] at ht
      rcases ht with rfl | rfl | rfl | rfl <;> walk_at "fr"
    · simp only [List.nodup_cons, List.mem_cons, List.not_mem_nil, or_false, not_or, not_false_eq_true, List.nodup_nil, and_true]
      exact ⟨⟨a1.symm, a2.symm, a3.symm, a4.symm⟩, ⟨d12, d13, d14⟩, ⟨d23, d24⟩, d34⟩
def spCheck (K : PySem.W.Frag) (CDisk : Addr) : Sp := fun vs H Q _ => ∃ (d : Addr) (fd : List Addr) (n m : Nat) (D : DM) (b : Int), vs = [.ref d, .int b] ∧ DiskAt K CDisk H d fd n m D ∧ 0 ≤ b ∧ b < n ∧ Q .non H
abbrev s_Disk_check_block : Stmt := inClass (top 23) 2
abbrev N_Disk_check_block : List Str := ["self", "block"]
theorem sc_Disk_check_block : FnScope N_Disk_check_block ["self", "block"] (defScope s_Disk_check_block) :=
  ⟨rfl, rfl, rfl, by decide +kernel, rfl, by decide +kernel, by decide +kernel⟩

theorem ok_Disk_check {f : Addr} {fd : FuncData} (F : Fun K "check_block" "Disk.check_block" s_Disk_check_block f fd) (B : Bl mg) (T : TDisk K CDisk) (C_is_between : ClK P w K mg base CX0 2 "is_between" 1 ["low", "high"] (spBet K)) :
    FnOk P w K mg base CX0 3 f fd ["self", "block"] (spCheck K CDisk) := by
  refine F.ok sc_Disk_check_block (fun vs H Q E h => ?_) (fun cdv A outer s H vs Q E hr h => ?_)
  · obtain ⟨_, _, _, _, _, _, rfl, _⟩ := h
    rfl
  · obtain ⟨d, fd, n, m, D, b, rfl, ⟨ok, dx, l1, l2, l3, l4, x1, x2, x3, x4, rfl, hnd, h0, h1, h2, h3, h4, v1, v2, v3, v4⟩, hb0, hb1, k⟩ := h
    have hu := hu_of hr
    have nd := sc_Disk_check_block.nd
    obtain ⟨cl, n1, n2, n3, n4⟩ := T
    refine ⟨_, (pss_one (ps_if (pt_not (pt_tru (K := K) (pe_clK C_is_between hr (by decide) (pa_cons (pv 1) pa_nil) (pk_cons pe_int (pk_cons (pe_op op_sub (pe_callB (call_lenA (K := K)) rfl B.len PySem.boot_len (pa_cons (pe_fldA (K := K) (pv 0)) pa_nil)) pe_int) pk_nil))))) (pss_one (ps_dead)) pss_nil)), ?_⟩
    repeat walk_at "s"
    have e : x1.length = n := by rw [v1.length, ok.fl]
    refine ⟨_, [], .int b, 0, _, rfl, .int _, ?_⟩
    rw [bet_iff.mpr ⟨hb0, by omega⟩]
    repeat walk_at "s"
    refine r_iteF rfl ?_
    repeat walk_at "s"
    exact k
def spRead (K : PySem.W.Frag) (CDisk : Addr) : Sp := fun vs H Q _ => ∃ (d : Addr) (fd : List Addr) (n m : Nat) (D : DM) (b : Int), vs = [.ref d, .int b] ∧ DiskAt K CDisk H d fd n m D ∧ 0 ≤ b ∧ b < n ∧
  ∀ v, Dn K [] H v (D.read b) → Q v H
theorem wr_inv {S : List Addr} {H : Hp} {v : V} {u : Int × PyData} (h : Dn K S H v (dWr u)) : ∃ p x, v = .ref p ∧ SqT K H p [.int u.1, x] ∧ Dn K S H x u.2 := by
  obtain ⟨p, xs, rfl, h1, h2⟩ := h.tup_inv
  obtain ⟨n, _, rfl, h3, h4⟩ := h2.cons_inv
  obtain ⟨x, _, rfl, h5, h6⟩ := h4.cons_inv
  obtain rfl := h6.nil_inv
  obtain rfl := h3.int_inv
  exact ⟨p, x, rfl, h1, h5⟩
theorem map_getG {α β : Type} {f : α → β} {l : List α} {i : Nat} {d : β} (h : (l.map f)[i]? = some d) : ∃ x, l[i]? = some x ∧ d = f x := by
  rw [List.getElem?_map] at h
  obtain ⟨x, h1, h2⟩ := Option.map_eq_some_iff.mp h
  exact ⟨x, h1, h2.symm⟩
theorem foldl_takeG {α β : Type} {f : β → α → β} {b : β} {l : List α} {i : Nat} {x : α} (h : l[i]? = some x) : (l.take (i + 1)).foldl f b = f ((l.take i).foldl f b) x := by
  rw [List.take_add_one, h, List.foldl_append]; rfl
abbrev s_Disk_read : Stmt := inClass (top 23) 3
abbrev N_Disk_read : List Str := ["self", "block", "newest", "place", "value"]
theorem sc_Disk_read : FnScope N_Disk_read ["self", "block"] (defScope s_Disk_read) :=
  ⟨rfl, rfl, rfl, by decide +kernel, rfl, by decide +kernel, by decide +kernel⟩

theorem ok_Disk_read {f : Addr} {fd : FuncData} (F : Fun K "read" "Disk.read" s_Disk_read f fd) (T : TDisk K CDisk) (M_Disk_check_block : C8.Met P w K mg base 3 CDisk "check_block" (spCheck K CDisk) []) :
    FnOk P w K mg base CX0 4 f fd ["self", "block"] (spRead K CDisk) := by
  refine F.ok sc_Disk_read (fun vs H Q E h => ?_) (fun cdv A outer s H vs Q E hr h => ?_)
  · obtain ⟨_, _, _, _, _, _, rfl, _⟩ := h
    rfl
  · obtain ⟨d, fd, n, m, D, b, rfl, hD, hb0, hb1, k⟩ := h
    obtain ⟨ok, dx, l1, l2, l3, l4, x1, x2, x3, x4, rfl, hnd, h0, h1, h2, h3, h4, v1, v2, v3, v4⟩ := id hD
    have hu := hu_of hr
    have nd := sc_Disk_read.nd
    obtain ⟨cl, n1, n2, n3, n4⟩ := T
    refine ⟨_, (pss_cons (ps_expr (C8.pe_mt M_Disk_check_block hr (by decide) (pv 0) (pa_cons (pv 1) pa_nil)))
      (pss_cons (ps_set (i := 2) nd rfl (by first | exact Or.inl rfl | exact Or.inr rfl) (pe_ix (ix_any (K := K)) (pe_fldA (K := K) (pv 0)) (pv 1) (fun _ _ => rfl)))
      (pss_cons (ps_for PassesOwn.never rfl (pi_lst (K := K) (pe_fldA (K := K) (pv 0))) (pg_tpl (K := K) rfl (pgs_cons (pg_name (i := 3) nd rfl (by first | exact Or.inl rfl | exact Or.inr rfl)) (pgs_cons (pg_name (i := 4) nd rfl (by first | exact Or.inl rfl | exact Or.inr rfl)) pgs_nil)))
      (pss_one (ps_if (pt_cmpR (op_eqA (K := K) hr.units) (pv 3) (pv 1) (nomark _)) (pss_one (ps_set (i := 2) nd rfl (by first | exact Or.inl rfl | exact Or.inr rfl) (pv 4))) pss_nil)))
      (pss_one (ps_ret (pv 2)))))), ?_⟩
    repeat walk_at "s"
    refine r_methAt h0 (by with_unfolding_all rfl) ?_
    repeat walk_at "s"
    refine ⟨d, _, n, m, D, b, rfl, hD, hb0, hb1, ?_⟩
    repeat walk_at "s"
    obtain ⟨bn, rfl⟩ := Int.eq_ofNat_of_zero_le hb0
    have e2 : x2.length = n := by rw [v2.length, ok.sl]
    have hbl : bn < x2.length := by omega
    refine r_ixL (.of h2) (atI_nat (List.getElem?_eq_getElem hbl)) ?_
    repeat walk_at "s"
    obtain ⟨dd, hdd, hdn⟩ := v2.get (List.getElem?_eq_getElem hbl)
    refine forL (.of h3) (fun i σ H' => ∃ v o3 o4, σ = [some (.ref d), some (.int bn), some v, o3, o4] ∧ H' = H ∧ Dn K [] H v (lastW (D.writes.take i) bn dd))
      ⟨_, _, _, rfl, rfl, hdn⟩ ?_ ?_ ?_
    · rintro i σ H' hi ⟨v, o3, o4, rfl, rfl, hv⟩
      exact .of h3
    · rintro i x σ H' hi ⟨v, o3, o4, rfl, rfl, hv⟩
      obtain ⟨du, hdu, hu2⟩ := v3.get hi
      obtain ⟨u, hu1, rfl⟩ := map_getG hdu
      obtain ⟨p, y, rfl, hp, hy⟩ := wr_inv hu2
      have step : lastW (D.writes.take (i + 1)) bn dd = if u.1 = bn then u.2 else lastW (D.writes.take i) bn dd := foldl_takeG hu1
      repeat walk_at "s"
      refine r_ite (fun e => ?_) (fun e => ?_)
      · repeat walk_at "s"
        refine ⟨_, _, _, rfl, rfl, ?_⟩
        rw [step, if_pos e]; exact hy
      · repeat walk_at "s"
        refine ⟨_, _, _, rfl, rfl, ?_⟩
        rw [step, if_neg e]; exact hv
    · rintro σ H' ⟨v, o3, o4, rfl, rfl, hv⟩
      have e3 : x3.length = D.writes.length := by rw [v3.length, List.length_map]
      rw [e3, List.take_length] at hv
      repeat walk_at "s"
      refine k v ?_
      have e4 : dd = D.safe.getD ((bn : Int)).toNat .none := by
        rw [List.getD_eq_getElem?_getD, Int.toNat_natCast, hdd]; rfl
      unfold DM.read
      rw [← e4]; exact hv
end
end L03

open PySem L2 PyProof.Rows J

namespace L03
section
variable {P : Program} {w : World} {K : PySem.W.Frag} {mg : Str → Option Value} {base : Heap} {CDisk : Addr}
def spWrite (K : PySem.W.Frag) (CDisk : Addr) : Sp := fun vs H Q _ => ∃ (d : Addr) (fd : List Addr) (n m : Nat) (D : DM) (b : Int) (v : V) (S : List Addr) (dv : PyData), vs = [.ref d, .int b, v] ∧ DiskAt K CDisk H d fd n m D ∧ m < 1000000 ∧ 0 ≤ b ∧ b < n ∧
  Dn K S H v dv ∧ blockB dv = true ∧ ∀ H', But fd H H' → DiskAt K CDisk H' d fd n (m + 1) (D.write b dv) → Q .non H'
abbrev s_Disk_write : Stmt := inClass (top 23) 4
abbrev N_Disk_write : List Str := ["self", "block", "value"]
theorem sc_Disk_write : FnScope N_Disk_write ["self", "block", "value"] (defScope s_Disk_write) :=
  ⟨rfl, rfl, rfl, by decide +kernel, rfl, by decide +kernel, by decide +kernel⟩

theorem ok_Disk_write {f : Addr} {fd : FuncData} (F : Fun K "write" "Disk.write" s_Disk_write f fd) (T : TDisk K CDisk) (M_Disk_check_block : C8.Met P w K mg base 3 CDisk "check_block" (spCheck K CDisk) [])
    (D_is_value : C8.Cal P w K mg base 11 "is_value" (spVal K 9) [.int 0]) :
    FnOk P w K mg base CX0 12 f fd ["self", "block", "value"] (spWrite K CDisk) := by
  refine F.ok sc_Disk_write (fun vs H Q E h => ?_) (fun cdv A outer s H vs Q E hr h => ?_)
  · obtain ⟨_, _, _, _, _, _, _, _, _, rfl, _⟩ := h
    rfl
  · obtain ⟨d, fd, n, m, D, b, v, S, dv, rfl, hD, hm, hb0, hb1, hv, hbl, k⟩ := h
    obtain ⟨ok, dx, l1, l2, l3, l4, x1, x2, x3, x4, rfl, hnd, h0, h1, h2, h3, h4, v1, v2, v3, v4⟩ := id hD
    have hu := hu_of hr
    have nd := sc_Disk_write.nd
    obtain ⟨cl, n1, n2, n3, n4⟩ := T
    simp only [List.nodup_cons, List.mem_cons, List.not_mem_nil, or_false, not_or, not_false_eq_true, List.nodup_nil, and_true] at hnd
    obtain ⟨⟨a1, a2, a3, a4⟩, ⟨a12, a13, a14⟩, ⟨a23, a24⟩, a34⟩ := hnd
    have hval := blockB_val hbl
    have hsl := blockB_slim hbl
    have nlv := blockB_nol hbl
    have wl : x3.length ≤ m := by rw [v3.length, List.length_map]; exact Nat.le_trans ok.wl ok.dl
    have dl : x4.length ≤ m := by rw [v4.length, List.length_map]; exact ok.dl
    refine ⟨_, (pss_cons (ps_expr (C8.pe_mt M_Disk_check_block hr (by decide) (pv 0) (pa_cons (pv 1) pa_nil)))
      (pss_cons (ps_if (pt_not (pt_tru (K := K) (pe_cld D_is_value hr (by decide) (pa_cons (pv 2) pa_nil)))) (pss_one (ps_dead)) pss_nil)
      (pss_cons (ps_expr (pe_bm PySem.F.plainAttrs_list PySem.F.slot_list_append PySem.F.type_list_append mt_append (pe_fldA (K := K) (pv 0)) (pa_cons (pe_tup (pa_cons (pv 1) (pa_cons (pv 2) pa_nil))) pa_nil)))
      (pss_one (ps_expr (pe_bm PySem.F.plainAttrs_list PySem.F.slot_list_append PySem.F.type_list_append mt_append (pe_fldA (K := K) (pv 0)) (pa_cons (pe_tup (pa_cons pe_str (pa_cons (pv 1) (pa_cons (pv 2) pa_nil)))) pa_nil))))))), ?_⟩
    repeat walk_at "s"
    refine r_methAt h0 (by with_unfolding_all rfl) ?_
    repeat walk_at "s"
    refine ⟨d, _, n, m, D, b, rfl, hD, hb0, hb1, ?_⟩
    repeat walk_at "s"
    refine ⟨v, S, dv, 0, rfl, hv, hsl, by decide, by decide, fun H1 s1 => ?_⟩
    rw [hval]
    repeat walk_at "s"
    refine r_iteF rfl ?_
    repeat walk_at "s"
    refine r_newT (sz (Nat.le_of_ble_eq_true rfl)) (fun T1 H2 hT1 s2 hT12 => ?_)
    repeat walk_at "s"
    have h32 : H2 l3 = some (.lst x3) := by walk_at "hp"
    refine r_app h32 (szl (by omega)) (fun H3 b3 hl33 => ?_)
    repeat walk_at "s"
    refine r_newT (sz (Nat.le_of_ble_eq_true rfl)) (fun T2 H4 hT2 s4 hT24 => ?_)
    repeat walk_at "s"
    have h44 : H4 l4 = some (.lst x4) := by walk_at "hp"
    refine r_app h44 (szl (by omega)) (fun H5 b5 hl45 => ?_)
    repeat walk_at "s"
    have v2' : Dn K [] H2 v dv := hv.nlb nlv ((But.of_same (S := []) s1).trans (But.of_same s2))
    have v5' : Dn K [] H5 v dv := v2'.nlb nlv (show But [l3, l4] H2 H5 by walk_at "bt")
    have t15 : SqT K H5 T1 [.int b, v] := by walk_at "sq"
    have t25 : SqT K H5 T2 [.str "write", .int b, v] := by walk_at "sq"
    have f0 : H5 d = some (.ins CDisk dx (diskF l1 l2 l3 l4)) := by walk_at "hp"
    have f1 : H5 l1 = some (.lst x1) := by walk_at "hp"
    have f2 : H5 l2 = some (.lst x2) := by walk_at "hp"
    have f3 : H5 l3 = some (.lst (x3 ++ [.ref T1])) := by walk_at "hp"
    have bAll : But [d, l1, l2, l3, l4] H H5 := by walk_at "bt"
    refine k H5 bAll ⟨ok.write hb0 hb1 hbl, dx, l1, l2, l3, l4, _, _, _, _, rfl, ?_, f0, f1, f2, f3, hl45, v1.nlb ok.nl1 bAll, v2.nlb ok.nl2 bAll, ?_, ?_⟩
    · simp only [List.nodup_cons, List.mem_cons, List.not_mem_nil, or_false, not_or, not_false_eq_true, List.nodup_nil, and_true]
      exact ⟨⟨a1, a2, a3, a4⟩, ⟨a12, a13, a14⟩, ⟨a23, a24⟩, a34⟩
    · have e : (D.write b dv).writes.map dWr = D.writes.map dWr ++ [dWr (b, dv)] := by simp [DM.write]
      rw [e]
      exact (v3.nlb ok.nl3 bAll).snoc (.tup t15 (.cons (.int _) (.one v5')))
    · have e : (D.write b dv).deeds.map dEv = D.deeds.map dEv ++ [dEv (some (b, dv))] := by simp [DM.write]
      rw [e]
      exact (v4.nlb ok.nl4 bAll).snoc (.tup t25 (.cons (.str _) (.cons (.int _) (.one v5'))))
def spFlush (K : PySem.W.Frag) (CDisk : Addr) : Sp := fun vs H Q _ => ∃ (d : Addr) (fd : List Addr) (n m : Nat) (D : DM), vs = [.ref d] ∧ DiskAt K CDisk H d fd n m D ∧ m < 1000000 ∧
  ∀ H', But fd H H' → DiskAt K CDisk H' d fd n (m + 1) D.flush → Q .non H'
theorem DnAll.set {S : List Addr} {H : Hp} : ∀ {xs : List V} {ds : List PyData} {v : V} {d : PyData} (i : Nat), DnAll K S H xs ds → Dn K S H v d → DnAll K S H (xs.set i v) (ds.set i d)
  | _, _, _, _, _, .nil, _ => .nil
  | _, _, _, _, 0, .cons _ t, h => .cons h t
  | _, _, _, _, i + 1, .cons h0 t, h => .cons h0 (DnAll.set i t h)
theorem noLs_set {xs : List PyData} {i : Nat} {d : PyData} (h : noLs xs = true) (hd : noL d = true) : noLs (xs.set i d) = true :=
  noLs_all.mpr fun x hx => by
    rcases List.mem_or_eq_of_mem_set hx with hx | hx
    · exact noLs_all.mp h x hx
    · rw [hx]; exact hd
theorem ixN_nat {n i : Nat} (h : i < n) : ixN n (i : Int) = some i := by
  simp [ixN, h]
theorem r_clear {H : Hp} {Q : VK} {l : Addr} {xs : List V} (h : H l = some (.lst xs)) (k : ∀ H', But [l] H H' → H' l = some (.lst []) → Q .non H') : rClear (.ref l) [] H Q :=
  ⟨l, xs, rfl, rfl, h, k _ (But.write h (fun z => z) (by simp)) upd_same⟩
abbrev s_Disk_flush : Stmt := inClass (top 23) 5
abbrev N_Disk_flush : List Str := ["self", "block", "value"]
theorem sc_Disk_flush : FnScope N_Disk_flush ["self"] (defScope s_Disk_flush) :=
  ⟨rfl, rfl, rfl, by decide +kernel, rfl, by decide +kernel, by decide +kernel⟩

theorem ok_Disk_flush {f : Addr} {fd : FuncData} (F : Fun K "flush" "Disk.flush" s_Disk_flush f fd) (T : TDisk K CDisk) :
    FnOk P w K mg base CX0 1 f fd ["self"] (spFlush K CDisk) := by
  refine F.ok sc_Disk_flush (fun vs H Q E h => ?_) (fun cdv A outer s H vs Q E hr h => ?_)
  · obtain ⟨_, _, _, _, _, rfl, _⟩ := h
    rfl
  · obtain ⟨d, fd, n, m, D, rfl, hD, hm, k⟩ := h
    obtain ⟨ok, dx, l1, l2, l3, l4, x1, x2, x3, x4, rfl, hnd, h0, h1, h2, h3, h4, v1, v2, v3, v4⟩ := id hD
    have hu := hu_of hr
    have nd := sc_Disk_flush.nd
    obtain ⟨cl, n1, n2, n3, n4⟩ := T
    simp only [List.nodup_cons, List.mem_cons, List.not_mem_nil, or_false, not_or, not_false_eq_true, List.nodup_nil, and_true] at hnd
    obtain ⟨⟨a1, a2, a3, a4⟩, ⟨a12, a13, a14⟩, ⟨a23, a24⟩, a34⟩ := hnd
    have dl : x4.length ≤ m := by rw [v4.length, List.length_map]; exact ok.dl
    refine ⟨_, (pss_cons (ps_for PassesOwn.never rfl (pi_lst (K := K) (pe_fldA (K := K) (pv 0))) (pg_tpl (K := K) rfl (pgs_cons (pg_name (i := 1) nd rfl (by first | exact Or.inl rfl | exact Or.inr rfl)) (pgs_cons (pg_name (i := 2) nd rfl (by first | exact Or.inl rfl | exact Or.inr rfl)) pgs_nil)))
      (pss_one (ps_asg (pv 2) (pg_sub (pe_fldA (K := K) (pv 0)) (pv 1) set_list))))
      (pss_cons (ps_expr (pe_bm0 PySem.F.plainAttrs_list PySem.F.slot_list_clear PySem.F.type_list_clear mt_clear (pe_fldA (K := K) (pv 0))))
      (pss_one (ps_expr (pe_bm PySem.F.plainAttrs_list PySem.F.slot_list_append PySem.F.type_list_append mt_append (pe_fldA (K := K) (pv 0)) (pa_cons (pe_tup (pa_cons pe_str pa_nil)) pa_nil)))))), ?_⟩
    repeat walk_at "s"
    have nlw : ∀ u ∈ D.writes, noL u.2 = true := fun u hu => blockB_nol (ok.wv u hu).2.2
    refine forL (.of h3) (fun i σ H' => ∃ o1 o2 ys, σ = [some (.ref d), o1, o2] ∧ But [l2] H H' ∧ H' l2 = some (.lst ys) ∧ DnAll K [] H' ys (putAll (D.writes.take i) D.safe))
      ⟨_, _, _, rfl, .refl, h2, v2⟩ ?_ ?_ ?_
    · rintro i σ H1 hi ⟨o1, o2, ys, rfl, b1, hl2, hys⟩
      exact .of (b1.at h3 (by walk_at "ni"))
    · rintro i x σ H1 hi ⟨o1, o2, ys, rfl, b1, hl2, hys⟩
      obtain ⟨du, hdu, hu2⟩ := v3.get hi
      obtain ⟨u, hu1, rfl⟩ := map_getG hdu
      obtain ⟨p, y, rfl, hp, hy⟩ := wr_inv hu2
      have hum := List.mem_of_getElem? hu1
      obtain ⟨hb0, hb1, hvv⟩ := ok.wv u hum
      obtain ⟨bn, hbn⟩ := Int.eq_ofNat_of_zero_le hb0
      have step : putAll (D.writes.take (i + 1)) D.safe = (putAll (D.writes.take i) D.safe).set u.1.toNat u.2 := foldl_takeG hu1
      have yl : ys.length = n := by rw [hys.length, putAll_length, ok.sl]
      repeat walk_at "s"
      rw [hbn]
      refine s_lst hl2 (ixN_nat (by omega)) (fun H2 b2 hl22 => ?_)
      refine ⟨_, _, _, rfl, b1.trans b2, hl22, ?_⟩
      rw [step, hbn, Int.toNat_natCast]
      have nls : noLs (putAll (D.writes.take i) D.safe) = true := noLs_all.mpr fun z hz => by
        rcases putAll_mem hz with hz | ⟨q, hq, rfl⟩
        · exact blockB_nol (ok.sv z hz)
        · exact nlw q (List.mem_of_mem_take hq)
      exact DnAll.set bn (hys.nlb nls b2) (hy.nlb (nlw u hum) (b1.trans b2))
    · rintro σ H1 ⟨o1, o2, ys, rfl, b1, hl2, hys⟩
      have e3 : x3.length = D.writes.length := by rw [v3.length, List.length_map]
      rw [e3, List.take_length] at hys
      repeat walk_at "s"
      have h31 : H1 l3 = some (.lst x3) := by walk_at "hp"
      refine r_clear h31 (fun H2 b2 hl32 => ?_)
      repeat walk_at "s"
      refine r_newT (sz (Nat.le_of_ble_eq_true rfl)) (fun T2 H3 hT2 s3 hT23 => ?_)
      repeat walk_at "s"
      have h43 : H3 l4 = some (.lst x4) := by walk_at "hp"
      refine r_app h43 (szl (by omega)) (fun H4 b4 hl44 => ?_)
      repeat walk_at "s"
      have t25 : SqT K H4 T2 [.str "flush"] := by walk_at "sq"
      have f0 : H4 d = some (.ins CDisk dx (diskF l1 l2 l3 l4)) := by walk_at "hp"
      have f1 : H4 l1 = some (.lst x1) := by walk_at "hp"
      have f2 : H4 l2 = some (.lst ys) := by walk_at "hp"
      have f3 : H4 l3 = some (.lst []) := by walk_at "hp"
      have b14 : But [l3, l4] H1 H4 := by walk_at "bt"
      have bAll : But [d, l1, l2, l3, l4] H H4 := (b1.sub (by simp)).trans (b14.sub (by simp))
      have okf := ok.flush
      refine k H4 bAll ⟨okf, dx, l1, l2, l3, l4, _, _, _, _, rfl, ?_, f0, f1, f2, f3, hl44, v1.nlb ok.nl1 bAll, hys.nlb okf.nl2 b14, .nil, ?_⟩
      · simp only [List.nodup_cons, List.mem_cons, List.not_mem_nil, or_false, not_or, not_false_eq_true, List.nodup_nil, and_true]
        exact ⟨⟨a1, a2, a3, a4⟩, ⟨a12, a13, a14⟩, ⟨a23, a24⟩, a34⟩
      · have e : D.flush.deeds.map dEv = D.deeds.map dEv ++ [dEv none] := by simp [DM.flush]
        rw [e]
        exact (v4.nlb ok.nl4 bAll).snoc (.tup t25 (.one (.str _)))
def spCopyOf (K : PySem.W.Frag) (CDisk : Addr) (g : DM → List PyData) : Sp := fun vs H Q _ => ∃ (d : Addr) (fd : List Addr) (n m : Nat) (D : DM), vs = [.ref d] ∧ DiskAt K CDisk H d fd n m D ∧
  ∀ l xs H', H l = none → Same H H' → H' l = some (.lst xs) → DnAll K [] H' xs (g D) → Q (.ref l) H'
abbrev s_Disk_durable : Stmt := inClass (top 23) 7
abbrev N_Disk_durable : List Str := ["self"]
theorem sc_Disk_durable : FnScope N_Disk_durable ["self"] (defScope s_Disk_durable) :=
  ⟨rfl, rfl, rfl, by decide +kernel, rfl, by decide +kernel, by decide +kernel⟩

theorem ok_Disk_durable {f : Addr} {fd : FuncData} (F : Fun K "durable" "Disk.durable" s_Disk_durable f fd) (B : Bl mg) (T : TDisk K CDisk) :
    FnOk P w K mg base CX0 1 f fd ["self"] (spCopyOf K CDisk DM.safe) := by
  refine F.ok sc_Disk_durable (fun vs H Q E h => ?_) (fun cdv A outer s H vs Q E hr h => ?_)
  · obtain ⟨_, _, _, _, _, rfl, _⟩ := h
    rfl
  · obtain ⟨d, fd, n, m, D, rfl, ⟨ok, dx, l1, l2, l3, l4, x1, x2, x3, x4, rfl, hnd, h0, h1, h2, h3, h4, v1, v2, v3, v4⟩, k⟩ := h
    have nd := sc_Disk_durable.nd
    obtain ⟨cl, n1, n2, n3, n4⟩ := T
    refine ⟨_, (pss_one (ps_ret (pe_callTy (call_listA (K := K)) rfl B.list (by decide +kernel) (pa_cons (pe_fldA (K := K) (pv 0)) pa_nil)))), ?_⟩
    repeat walk_at "s"
    refine r_listL (.of h2) (fun l H1 hl s1 hl1 => ?_)
    exact k l x2 H1 hl s1 hl1 (v2.same s1)
abbrev s_Disk_events : Stmt := inClass (top 23) 8
abbrev N_Disk_events : List Str := ["self"]
theorem sc_Disk_events : FnScope N_Disk_events ["self"] (defScope s_Disk_events) :=
  ⟨rfl, rfl, rfl, by decide +kernel, rfl, by decide +kernel, by decide +kernel⟩

theorem ok_Disk_events {f : Addr} {fd : FuncData} (F : Fun K "events" "Disk.events" s_Disk_events f fd) (B : Bl mg) (T : TDisk K CDisk) :
    FnOk P w K mg base CX0 1 f fd ["self"] (spCopyOf K CDisk fun D => D.deeds.map dEv) := by
  refine F.ok sc_Disk_events (fun vs H Q E h => ?_) (fun cdv A outer s H vs Q E hr h => ?_)
  · obtain ⟨_, _, _, _, _, rfl, _⟩ := h
    rfl
  · obtain ⟨d, fd, n, m, D, rfl, ⟨ok, dx, l1, l2, l3, l4, x1, x2, x3, x4, rfl, hnd, h0, h1, h2, h3, h4, v1, v2, v3, v4⟩, k⟩ := h
    have nd := sc_Disk_events.nd
    obtain ⟨cl, n1, n2, n3, n4⟩ := T
    refine ⟨_, (pss_one (ps_ret (pe_callTy (call_listA (K := K)) rfl B.list (by decide +kernel) (pa_cons (pe_fldA (K := K) (pv 0)) pa_nil)))), ?_⟩
    repeat walk_at "s"
    refine r_listL (.of h4) (fun l H1 hl s1 hl1 => ?_)
    exact k l x4 H1 hl s1 hl1 (v4.same s1)
end
end L03

open PySem L2 PyProof.Rows J

namespace L03
/-! ### the exceptions -/
def foWhy : List V → Option (List (Str × V))
  | [y] => some [("why", y)]
  | _ => none
section
variable {P : Program} {w : World} {K : PySem.W.Frag} {mg : Str → Option Value} {base : Heap} {CDisk CBB CBV CBC : Addr}
abbrev s_LogError_init : Stmt := inClass (top 1) 0
abbrev N_LogError_init : List Str := ["self", "why"]
theorem sc_LogError_init : FnScope N_LogError_init ["self", "why"] (defScope s_LogError_init) :=
  ⟨rfl, rfl, rfl, by decide +kernel, rfl, by decide +kernel, by decide +kernel⟩

theorem ok_LogError_init {f : Addr} {fd : FuncData} {dvs : List V} {kws : List (Str × V)} (F : FunD K "__init__" "LogError.__init__" (defArgs s_LogError_init) (defBody s_LogError_init) (defScope s_LogError_init) dvs kws f fd) (B : Bl mg)
    (vV : PySem.W.findCls K (.type "ValueError") (.type "type") "__init__" = some (.val (.builtin "ValueError.__init__"))) :
    FnOk P w K mg base CX0 1 f fd ["self", "why"] (spX K ["why"] foWhy) := by
  refine F.ok sc_LogError_init (fun vs H Q E h => ?_) (fun cdv A outer s H vs Q E hr h => ?_)
  · obtain ⟨a, C, ws, fs, rfl, hf, _⟩ := h
    match ws, hf with
    | [y], _ => rfl
  · obtain ⟨a, C, ws, fs, rfl, hf, T, hn, ha, k⟩ := h
    obtain ⟨y, rfl, rfl⟩ : ∃ y, ws = [y] ∧ fs = [(("why" : Str), y)] := by
      match ws, hf with
      | [y], hf => exact ⟨y, rfl, (Option.some.inj hf).symm⟩
    have nd := sc_LogError_init.nd
    refine ⟨_, (pss_cons (ps_expr (pe_veinit rfl B.ValueError vV (pa_cons (pv 0) (pa_cons (pv 1) pa_nil))))
      (pss_one (ps_ost (pv 0) (pv 1)))), ?_⟩
    repeat walk_at "s"
    refine ⟨a, C, [y], rfl, Nat.le_of_ble_eq_true rfl, T, ha, ?_⟩
    repeat walk_at "s"
    refine ⟨a, C, rfl, T, hn "why" List.mem_cons_self, .inl ⟨ha, fun dx hd hda => ?_⟩⟩
    refine k dx _ hd hda upd_same ?_ (fun b hb hb2 => ?_)
    · rw [upd_ne hda]; exact upd_same
    · rw [upd_ne hb, upd_ne hb2]
abbrev s_BadBlock_init : Stmt := inClass (top 3) 0
abbrev N_BadBlock_init : List Str := ["self", "block"]
theorem sc_BadBlock_init : FnScope N_BadBlock_init ["self", "block"] (defScope s_BadBlock_init) :=
  ⟨rfl, rfl, rfl, by decide +kernel, rfl, by decide +kernel, by decide +kernel⟩
theorem ok_BadBlock_init {f : Addr} {fd : FuncData} (F : Fun K "__init__" "BadBlock.__init__" s_BadBlock_init f fd) (N_LogError_init : CFn P w K mg base CX0 1 "LogError" "__init__" (spX K ["why"] foWhy)) :
    FnOk P w K mg base CX0 2 f fd ["self", "block"] (spX K ["why", "block"] (fo1 "block" "block")) := by
  refine F.ok sc_BadBlock_init (fun vs H Q E h => ?_) (fun cdv A outer s H vs Q E hr h => ?_)
  · obtain ⟨a, C, ws, fs, rfl, hf, _⟩ := h
    match ws, hf with
    | [x], _ => rfl
  · obtain ⟨a, C, ws, fs, rfl, hf, T, hn, ha, k⟩ := h
    obtain ⟨x, rfl, rfl⟩ : ∃ x, ws = [x] ∧ fs = [(("block" : Str), x), ("why", .str "block")] := by
      match ws, hf with
      | [x], hf => exact ⟨x, rfl, (Option.some.inj hf).symm⟩
    have nd := sc_BadBlock_init.nd
    refine ⟨_, (pss_cons (ps_expr (pe_cfn (E := fun _ => E0) N_LogError_init hr (by decide) pass00 (pa_cons (pv 0) (pa_cons pe_str pa_nil))))
      (pss_one (ps_ost (pv 0) (pv 1)))), ?_⟩
    repeat walk_at "s"
    refine ⟨a, C, [.str "block"], _, rfl, rfl, T, fun n h => hn n (by rw [List.mem_singleton.mp h]; exact List.mem_cons_self), ha, fun dx H1 hd hda h1 h2 h3 => ?_⟩
    repeat walk_at "s"
    refine ⟨a, C, rfl, T, hn "block" (by simp), .inr ⟨dx, _, h1, h2, Nat.le_of_ble_eq_true rfl, ?_⟩⟩
    refine k dx _ hd hda ?_ upd_same (fun b hb hb2 => ?_)
    · rw [upd_ne (Ne.symm hda)]; exact h1
    · rw [upd_ne hb2, h3 b hb hb2]

abbrev s_BadCount_init : Stmt := inClass (top 5) 0
abbrev N_BadCount_init : List Str := ["self", "count"]
theorem sc_BadCount_init : FnScope N_BadCount_init ["self", "count"] (defScope s_BadCount_init) :=
  ⟨rfl, rfl, rfl, by decide +kernel, rfl, by decide +kernel, by decide +kernel⟩
theorem ok_BadCount_init {f : Addr} {fd : FuncData} (F : Fun K "__init__" "BadCount.__init__" s_BadCount_init f fd) (N_LogError_init : CFn P w K mg base CX0 1 "LogError" "__init__" (spX K ["why"] foWhy)) :
    FnOk P w K mg base CX0 2 f fd ["self", "count"] (spX K ["why", "count"] (fo1 "count" "count")) := by
  refine F.ok sc_BadCount_init (fun vs H Q E h => ?_) (fun cdv A outer s H vs Q E hr h => ?_)
  · obtain ⟨a, C, ws, fs, rfl, hf, _⟩ := h
    match ws, hf with
    | [x], _ => rfl
  · obtain ⟨a, C, ws, fs, rfl, hf, T, hn, ha, k⟩ := h
    obtain ⟨x, rfl, rfl⟩ : ∃ x, ws = [x] ∧ fs = [(("count" : Str), x), ("why", .str "count")] := by
      match ws, hf with
      | [x], hf => exact ⟨x, rfl, (Option.some.inj hf).symm⟩
    have nd := sc_BadCount_init.nd
    refine ⟨_, (pss_cons (ps_expr (pe_cfn (E := fun _ => E0) N_LogError_init hr (by decide) pass00 (pa_cons (pv 0) (pa_cons pe_str pa_nil))))
      (pss_one (ps_ost (pv 0) (pv 1)))), ?_⟩
    repeat walk_at "s"
    refine ⟨a, C, [.str "count"], _, rfl, rfl, T, fun n h => hn n (by rw [List.mem_singleton.mp h]; exact List.mem_cons_self), ha, fun dx H1 hd hda h1 h2 h3 => ?_⟩
    repeat walk_at "s"
    refine ⟨a, C, rfl, T, hn "count" (by simp), .inr ⟨dx, _, h1, h2, Nat.le_of_ble_eq_true rfl, ?_⟩⟩
    refine k dx _ hd hda ?_ upd_same (fun b hb hb2 => ?_)
    · rw [upd_ne (Ne.symm hda)]; exact h1
    · rw [upd_ne hb2, h3 b hb hb2]

/-- an error of the class at C is raised, its fields fs -/
def Raised (C : Addr) (fs : List (Str × V)) (H : Hp) (E : XK) : Prop := ∀ dd H', H dd = none → Same H H' → H' dd = some (.xd fs) → E (.ref C) (some dd) H'
theorem fn_or {CX : CXT} {k : Nat} {f : Addr} {fd : FuncData} {ps : List Str} {sp sp' : Sp} (F : FnOk P w K mg base CX k f fd ps sp) (F' : FnOk P w K mg base CX k f fd ps sp') : FnOk P w K mg base CX k f fd ps (fun vs H Q E => sp vs H Q E ∨ sp' vs H Q E) :=
  ⟨fun vs H Q E h => h.elim (F.len vs H Q E) (F'.len vs H Q E), fun A outer s H args us vs Q E hr e0 hb r h => h.elim (F.run A outer s H args us vs Q E hr e0 hb r) (F'.run A outer s H args us vs Q E hr e0 hb r)⟩
theorem fn_mono {CX : CXT} {k k' : Nat} {f : Addr} {fd : FuncData} {ps : List Str} {sp : Sp} (F : FnOk P w K mg base CX k f fd ps sp) (h : k ≤ k') : FnOk P w K mg base CX k' f fd ps sp := ⟨F.len, fun A outer s H args us vs Q E hr => F.run A outer s H args us vs Q E (hr.mono h)⟩
/-! ### is_integer, is_between of odd values -/
def spIsIntO (K : PySem.W.Frag) : Sp := fun vs H Q _ => ∃ x S d, vs = [x] ∧ OdV K S H x d ∧ Q (.bl (intB d)) H
theorem ok_is_integerO {f : Addr} {fd : FuncData} (F : Fun K "is_integer" "is_integer" s_is_integer f fd) (B : Bl mg) :
    FnOk P w K mg base CX0 1 f fd ["value"] (spIsIntO K) := by
  refine F.ok sc_is_integer (fun vs H Q E h => ?_) (fun cdv A outer s H vs Q E hr h => ?_)
  · obtain ⟨_, _, _, rfl, _⟩ := h
    rfl
  · obtain ⟨x, S, d, rfl, hx, k⟩ := h
    have hu := hu_of hr
    have nd := sc_is_integer.nd
    refine ⟨_, (pss_one (ps_ret (pe_and (pe_callB (call_isiA (K := K)) rfl B.isinstance (by decide +kernel) (pa_cons (pv 0) (pa_cons (pe_tyN (T := "int") rfl B.int (by decide +kernel)) pa_nil))) (pe_one (pe_not (pe_callB (call_isiA (K := K)) rfl B.isinstance (by decide +kernel) (pa_cons (pv 0) (pa_cons (pe_tyN (T := "bool") rfl B.bool (by decide +kernel)) pa_nil)))))))), ?_⟩
    repeat walk_at "s"
    refine od_isInt hx ?_
    repeat walk_at "s"
    refine r_iteB (fun e => ?_) (fun e => ?_)
    · repeat walk_at "s"
      refine od_isBool hx ?_
      repeat walk_at "s"
      cases d <;> first | exact k | (simp [isIntD] at e; done)
    · cases d <;> first | exact k | (simp [isIntD] at e; done)
def spBetO (K : PySem.W.Frag) : Sp := fun vs H Q _ => ∃ x S d lo hi, vs = [x, .int lo, .int hi] ∧ OdV K S H x d ∧ Q (.bl (betB d lo hi)) H
theorem ok_is_betweenO {f : Addr} {fd : FuncData} (F : Fun K "is_between" "is_between" s_is_between f fd) (C_is_integer : Cl P w K mg base CX0 1 "is_integer" (spIsIntO K)) :
    FnOk P w K mg base CX0 2 f fd ["value", "low", "high"] (spBetO K) := by
  refine F.ok sc_is_between (fun vs H Q E h => ?_) (fun cdv A outer s H vs Q E hr h => ?_)
  · obtain ⟨_, _, _, _, _, rfl, _⟩ := h
    rfl
  · obtain ⟨x, S, d, lo, hi, rfl, hx, k⟩ := h
    have hu := hu_of hr
    have nd := sc_is_between.nd
    refine ⟨_, (pss_one (ps_ret (pe_and (pe_cl (E := fun _ => E0) C_is_integer hr (by decide) pass00 (pa_cons (pv 0) pa_nil)) (pe_one (pe_chain op_le op_le (pv 1) (pv 0) (pv 2)))))), ?_⟩
    repeat walk_at "s"
    refine ⟨x, S, d, rfl, hx, ?_⟩
    repeat walk_at "s"
    refine r_iteB (fun e => ?_) (fun e => ?_)
    · obtain ⟨i, rfl⟩ : ∃ i, d = .int i := by
        cases d <;> first | exact ⟨_, rfl⟩ | (simp [intB] at e; done)
      obtain rfl := hx.int_inv
      repeat walk_at "s"
      refine r_ite (fun h1 => ?_) (fun h1 => ?_)
      · repeat walk_at "s"
        have e2 : betB (.int i) lo hi = decide (i ≤ hi) := by simp [betB, h1]
        rw [e2] at k
        exact k
      · have e2 : betB (.int i) lo hi = false := by simp [betB, h1]
        rw [e2] at k
        exact k
    · have e2 : betB d lo hi = false := by
        cases d <;> first | rfl | (simp [intB] at e; done)
      rw [e2] at k
      exact k
/-! ### disks: what is refused -/
def blockF (x : V) : List (Str × V) := [("block", x), ("why", .str "block")]
def countF (x : V) : List (Str × V) := [("count", x), ("why", .str "count")]
abbrev XErr (P : Program) (w : World) (K : PySem.W.Frag) (mg : Str → Option Value) (base : Heap) (x f why : Str) (C : Addr) : Prop := Oex P w K mg base 2 x C (spX K ["why", f] (fo1 f why))
def spCheckF (K : PySem.W.Frag) (CDisk CBB : Addr) : Sp := fun vs H _ E => ∃ (d : Addr) (fd : List Addr) (n m : Nat) (D : DM) (x : V) (S : List Addr) (dx : PyData), vs = [.ref d, x] ∧ DiskAt K CDisk H d fd n m D ∧ OdV K S H x dx ∧ betB dx 0 ((n : Int) - 1) = false ∧ Raised CBB (blockF x) H E
theorem ok_Disk_checkF {f : Addr} {fd : FuncData} (F : Fun K "check_block" "Disk.check_block" s_Disk_check_block f fd) (B : Bl mg) (T : TDisk K CDisk) (C_is_between : ClK P w K mg base CX0 2 "is_between" 1 ["low", "high"] (spBetO K)) (X_BadBlock : XErr P w K mg base "BadBlock" "block" "block" CBB)
    (XN : ∀ n ∈ (["why", "block"] : List Str), PySem.W.findIn K (.ref CBB) n = some none) :
    FnOk P w K mg base (L2.CX P w) 4 f fd ["self", "block"] (spCheckF K CDisk CBB) := by
  refine F.okX sc_Disk_check_block (fun vs H Q E h => ?_) (fun cdv A outer s H vs Q E hr h => ?_)
  · obtain ⟨_, _, _, _, _, _, _, _, rfl, _⟩ := h
    rfl
  · obtain ⟨d, fd, n, m, D, x, S, dxx, rfl, ⟨ok, dx, l1, l2, l3, l4, x1, x2, x3, x4, rfl, hnd, h0, h1, h2, h3, h4, v1, v2, v3, v4⟩, hx, hbt, k⟩ := h
    have hu := hu_of hr
    have nd := sc_Disk_check_block.nd
    obtain ⟨cl, n1, n2, n3, n4⟩ := T
    refine ⟨_, (pss_one (ps_if (pt_not (pt_tru (K := K) (pe_clK C_is_between hr (by decide) (pa_cons (pv 1) pa_nil) (pk_cons pe_int (pk_cons (pe_op op_sub (pe_callB (call_lenA (K := K)) rfl B.len PySem.boot_len (pa_cons (pe_fldA (K := K) (pv 0)) pa_nil)) pe_int) pk_nil))))) (pss_one (ps_raise rfl (takes_of rfl rfl rfl rfl) (pmk_x X_BadBlock hr (by decide) (pa_cons (pv 1) pa_nil)))) pss_nil)), ?_⟩
    repeat walk_at "s"
    have e : x1.length = n := by rw [v1.length, ok.fl]
    refine ⟨_, S, dxx, 0, _, rfl, hx, ?_⟩
    rw [e, hbt]
    repeat walk_at "s"
    refine r_iteT rfl ?_
    repeat walk_at "s"
    obtain ⟨_, _, _, _, oT, _⟩ := X_BadBlock.ex
    exact r_mkX ⟨Nat.le_of_ble_eq_true rfl, _, rfl, oT, XN, fun dd H' h1 h2 h3 => k dd H' h1 h2 h3⟩
end
end L03

open PySem L2 PyProof.Rows J

namespace L03
/-! ### how many classes an error belongs to -/
/-- the classes of errors by their names -/
structure ENames (mg : Str → Option Value) (c0 c1 c2 c3 c4 c5 c6 c7 c8 c9 c10 c11 c12 c13 cL : Addr) : Prop where
  g0 : mg "BadBlock" = some (.ref c0)
  g1 : mg "BadChoice" = some (.ref c1)
  g2 : mg "BadCount" = some (.ref c2)
  g3 : mg "BadLayout" = some (.ref c3)
  g4 : mg "BadPath" = some (.ref c4)
  g5 : mg "BadRule" = some (.ref c5)
  g6 : mg "BadStep" = some (.ref c6)
  g7 : mg "BadValue" = some (.ref c7)
  g8 : mg "HasEntry" = some (.ref c8)
  g9 : mg "NoEntry" = some (.ref c9)
  g10 : mg "NoRoom" = some (.ref c10)
  g11 : mg "NoSpace" = some (.ref c11)
  g12 : mg "NotEmpty" = some (.ref c12)
  g13 : mg "TooMany" = some (.ref c13)
  gL : mg "LogError" = some (.ref cL)
/-- D is the i-th of them -/
structure OneOf (K : PySem.W.Frag) (D : Addr) (i : Nat) (c0 c1 c2 c3 c4 c5 c6 c7 c8 c9 c10 c11 c12 c13 cL : Addr) : Prop where
  k0 : PySem.W.kitOne K (.ref D) (.ref c0) = some (decide (i = 0))
  k1 : PySem.W.kitOne K (.ref D) (.ref c1) = some (decide (i = 1))
  k2 : PySem.W.kitOne K (.ref D) (.ref c2) = some (decide (i = 2))
  k3 : PySem.W.kitOne K (.ref D) (.ref c3) = some (decide (i = 3))
  k4 : PySem.W.kitOne K (.ref D) (.ref c4) = some (decide (i = 4))
  k5 : PySem.W.kitOne K (.ref D) (.ref c5) = some (decide (i = 5))
  k6 : PySem.W.kitOne K (.ref D) (.ref c6) = some (decide (i = 6))
  k7 : PySem.W.kitOne K (.ref D) (.ref c7) = some (decide (i = 7))
  k8 : PySem.W.kitOne K (.ref D) (.ref c8) = some (decide (i = 8))
  k9 : PySem.W.kitOne K (.ref D) (.ref c9) = some (decide (i = 9))
  k10 : PySem.W.kitOne K (.ref D) (.ref c10) = some (decide (i = 10))
  k11 : PySem.W.kitOne K (.ref D) (.ref c11) = some (decide (i = 11))
  k12 : PySem.W.kitOne K (.ref D) (.ref c12) = some (decide (i = 12))
  k13 : PySem.W.kitOne K (.ref D) (.ref c13) = some (decide (i = 13))
  kL : PySem.W.kitOne K (.ref D) (.ref cL) = some true
  ec : ExcC K D
  xf : XfC K D
  nw : PySem.W.findIn K (.ref D) "why" = some none
theorem count_one {i : Nat} (h : i < 14) : List.count true [decide (i = 0), decide (i = 1), decide (i = 2), decide (i = 3), decide (i = 4), decide (i = 5), decide (i = 6), decide (i = 7), decide (i = 8), decide (i = 9), decide (i = 10), decide (i = 11), decide (i = 12), decide (i = 13)] = 1 := by
  have : ∀ i : Fin 14, List.count true [decide (i.1 = 0), decide (i.1 = 1), decide (i.1 = 2), decide (i.1 = 3), decide (i.1 = 4), decide (i.1 = 5), decide (i.1 = 6), decide (i.1 = 7), decide (i.1 = 8), decide (i.1 = 9), decide (i.1 = 10), decide (i.1 = 11), decide (i.1 = 12), decide (i.1 = 13)] = 1 := by decide
  exact this ⟨i, h⟩
section
variable {P : Program} {w : World} {K : PySem.W.Frag} {mg : Str → Option Value} {base : Heap} {c0 c1 c2 c3 c4 c5 c6 c7 c8 c9 c10 c11 c12 c13 cL : Addr}
def spClasses (K : PySem.W.Frag) (c0 c1 c2 c3 c4 c5 c6 c7 c8 c9 c10 c11 c12 c13 cL : Addr) : SpX := fun a cls d vs H Q _ => ∃ (D dd : Addr) (i : Nat) (fs : List (Str × V)) (y : Str), vs = [.ref a] ∧ cls = .ref D ∧ d = some dd ∧ OneOf K D i c0 c1 c2 c3 c4 c5 c6 c7 c8 c9 c10 c11 c12 c13 cL ∧ i < 14 ∧
  H dd = some (.xd fs) ∧ fs.lookup ("why" : Str) = some (V.str y) ∧ ∀ H', Same H H' → Q (.int 1) H'
abbrev s_law_classes_of : Stmt := top 33
abbrev N_law_classes_of : List Str := ["_law_e", "_law_kinds"]
theorem sc_law_classes_of : FnScope N_law_classes_of ["_law_e"] (defScope s_law_classes_of) :=
  ⟨rfl, rfl, rfl, by decide +kernel, rfl, by decide +kernel, by decide +kernel⟩

theorem ok_classes_of {f : Addr} {fd : FuncData} (F : Fun K "_law_classes_of" "_law_classes_of" s_law_classes_of f fd) (B : Bl mg) (EN : ENames mg c0 c1 c2 c3 c4 c5 c6 c7 c8 c9 c10 c11 c12 c13 cL) :
    FnP P w K mg base CX0 1 f fd ["_law_e"] (liftX (spClasses K c0 c1 c2 c3 c4 c5 c6 c7 c8 c9 c10 c11 c12 c13 cL)) := by
  refine okP F sc_law_classes_of (fun p vs H Q E h => ?_) (fun cdv A outer s H vs Q E p hr h => ?_)
  · obtain ⟨_, _, _, _, _, _, _, _, _, rfl, _⟩ := h
    rfl
  · obtain ⟨a, oe⟩ := p
    obtain ⟨_, _, hz, hf, D, dd, i, fs, y, rfl, rfl, rfl, oo, hi, hdd, hy, k⟩ := h
    have nd := sc_law_classes_of.nd
    obtain ⟨gC_BadBlock, gC_BadChoice, gC_BadCount, gC_BadLayout, gC_BadPath, gC_BadRule, gC_BadStep, gC_BadValue, gC_HasEntry, gC_NoEntry, gC_NoRoom, gC_NoSpace, gC_NotEmpty, gC_TooMany, gC_LogError⟩ := EN
    obtain ⟨k0, k1, k2, k3, k4, k5, k6, k7, k8, k9, k10, k11, k12, k13, kL, ec, xf, nw⟩ := oo
    refine ⟨_, (pss_cons (ps_set (i := 1) nd rfl (by first | exact Or.inl rfl | exact Or.inr rfl) (pe_lst (pa_cons (pe_callB (call_isX (K := K) List.mem_cons_self hz hf) rfl B.isinstance (by decide +kernel) (pa_cons (pv 0) (pa_cons (pe_gcl rfl gC_BadBlock) pa_nil))) (pa_cons (pe_callB (call_isX (K := K) List.mem_cons_self hz hf) rfl B.isinstance (by decide +kernel) (pa_cons (pv 0) (pa_cons (pe_gcl rfl gC_BadChoice) pa_nil))) (pa_cons (pe_callB (call_isX (K := K) List.mem_cons_self hz hf) rfl B.isinstance (by decide +kernel) (pa_cons (pv 0) (pa_cons (pe_gcl rfl gC_BadCount) pa_nil))) (pa_cons (pe_callB (call_isX (K := K) List.mem_cons_self hz hf) rfl B.isinstance (by decide +kernel) (pa_cons (pv 0) (pa_cons (pe_gcl rfl gC_BadLayout) pa_nil))) pa_nil))))))
      (pss_cons (ps_set (i := 1) nd rfl (by first | exact Or.inl rfl | exact Or.inr rfl) (pe_op (op_addA (K := K)) (pv 1) (pe_lst (pa_cons (pe_callB (call_isX (K := K) List.mem_cons_self hz hf) rfl B.isinstance (by decide +kernel) (pa_cons (pv 0) (pa_cons (pe_gcl rfl gC_BadPath) pa_nil))) (pa_cons (pe_callB (call_isX (K := K) List.mem_cons_self hz hf) rfl B.isinstance (by decide +kernel) (pa_cons (pv 0) (pa_cons (pe_gcl rfl gC_BadRule) pa_nil))) (pa_cons (pe_callB (call_isX (K := K) List.mem_cons_self hz hf) rfl B.isinstance (by decide +kernel) (pa_cons (pv 0) (pa_cons (pe_gcl rfl gC_BadStep) pa_nil))) (pa_cons (pe_callB (call_isX (K := K) List.mem_cons_self hz hf) rfl B.isinstance (by decide +kernel) (pa_cons (pv 0) (pa_cons (pe_gcl rfl gC_BadValue) pa_nil))) pa_nil)))))))
      (pss_cons (ps_set (i := 1) nd rfl (by first | exact Or.inl rfl | exact Or.inr rfl) (pe_op (op_addA (K := K)) (pv 1) (pe_lst (pa_cons (pe_callB (call_isX (K := K) List.mem_cons_self hz hf) rfl B.isinstance (by decide +kernel) (pa_cons (pv 0) (pa_cons (pe_gcl rfl gC_HasEntry) pa_nil))) (pa_cons (pe_callB (call_isX (K := K) List.mem_cons_self hz hf) rfl B.isinstance (by decide +kernel) (pa_cons (pv 0) (pa_cons (pe_gcl rfl gC_NoEntry) pa_nil))) (pa_cons (pe_callB (call_isX (K := K) List.mem_cons_self hz hf) rfl B.isinstance (by decide +kernel) (pa_cons (pv 0) (pa_cons (pe_gcl rfl gC_NoRoom) pa_nil))) (pa_cons (pe_callB (call_isX (K := K) List.mem_cons_self hz hf) rfl B.isinstance (by decide +kernel) (pa_cons (pv 0) (pa_cons (pe_gcl rfl gC_NoSpace) pa_nil))) pa_nil)))))))
      (pss_cons (ps_set (i := 1) nd rfl (by first | exact Or.inl rfl | exact Or.inr rfl) (pe_op (op_addA (K := K)) (pv 1) (pe_lst (pa_cons (pe_callB (call_isX (K := K) List.mem_cons_self hz hf) rfl B.isinstance (by decide +kernel) (pa_cons (pv 0) (pa_cons (pe_gcl rfl gC_NotEmpty) pa_nil))) (pa_cons (pe_callB (call_isX (K := K) List.mem_cons_self hz hf) rfl B.isinstance (by decide +kernel) (pa_cons (pv 0) (pa_cons (pe_gcl rfl gC_TooMany) pa_nil))) pa_nil)))))
      (pss_one (ps_ret (pe_op (op_addA (K := K)) (pe_op (op_addA (K := K)) (pe_bm PySem.F.plainAttrs_list PySem.F.slot_list_count PySem.F.type_list_count (mt_lcountB (K := K)) (pv 1) (pa_cons pe_bl pa_nil)) (pe_callTy call_int1 rfl B.int (by decide +kernel) (pa_cons (pe_not (pe_callB (call_isX (K := K) List.mem_cons_self hz hf) rfl B.isinstance (by decide +kernel) (pa_cons (pv 0) (pa_cons (pe_gcl rfl gC_LogError) pa_nil)))) pa_nil))) (pe_callTy call_int1 rfl B.int (by decide +kernel) (pa_cons (pe_not (pe_callB (call_isiA (K := K)) rfl B.isinstance (by decide +kernel) (pa_cons (pe_xf2 (K := K) List.mem_cons_self hz hf (pv 0)) (pa_cons (pe_tyN (T := "str") rfl B.str (by decide +kernel)) pa_nil)))) pa_nil))))))))), ?_⟩
    repeat walk_at "s"
    refine r_isXCl ec hdd k0 ?_
    repeat walk_at "s"
    refine r_isXCl ec hdd k1 ?_
    repeat walk_at "s"
    refine r_isXCl ec hdd k2 ?_
    repeat walk_at "s"
    refine r_isXCl ec hdd k3 ?_
    repeat walk_at "s"
    refine r_newL (sz (Nat.le_of_ble_eq_true rfl)) (fun l1 H1 hl1 s1 hl11 => ?_)
    have hdd1 := s1 _ _ hdd
    repeat walk_at "s"
    refine r_isXCl ec hdd1 k4 ?_
    repeat walk_at "s"
    refine r_isXCl ec hdd1 k5 ?_
    repeat walk_at "s"
    refine r_isXCl ec hdd1 k6 ?_
    repeat walk_at "s"
    refine r_isXCl ec hdd1 k7 ?_
    repeat walk_at "s"
    refine r_newL (sz (Nat.le_of_ble_eq_true rfl)) (fun l2 H2 hl2 s2 hl22 => ?_)
    repeat walk_at "s"
    refine r_addL (s2 _ _ hl11) hl22 (sz (Nat.le_of_ble_eq_true rfl)) (fun l3 H3 hl3 s3 hl33 => ?_)
    have hdd3 := s3 _ _ (s2 _ _ hdd1)
    repeat walk_at "s"
    refine r_isXCl ec hdd3 k8 ?_
    repeat walk_at "s"
    refine r_isXCl ec hdd3 k9 ?_
    repeat walk_at "s"
    refine r_isXCl ec hdd3 k10 ?_
    repeat walk_at "s"
    refine r_isXCl ec hdd3 k11 ?_
    repeat walk_at "s"
    refine r_newL (sz (Nat.le_of_ble_eq_true rfl)) (fun l4 H4 hl4 s4 hl44 => ?_)
    repeat walk_at "s"
    refine r_addL (s4 _ _ hl33) hl44 (sz (Nat.le_of_ble_eq_true rfl)) (fun l5 H5 hl5 s5 hl55 => ?_)
    have hdd5 := s5 _ _ (s4 _ _ hdd3)
    repeat walk_at "s"
    refine r_isXCl ec hdd5 k12 ?_
    repeat walk_at "s"
    refine r_isXCl ec hdd5 k13 ?_
    repeat walk_at "s"
    refine r_newL (sz (Nat.le_of_ble_eq_true rfl)) (fun l6 H6 hl6 s6 hl66 => ?_)
    repeat walk_at "s"
    refine r_addL (s6 _ _ hl55) hl66 (sz (Nat.le_of_ble_eq_true rfl)) (fun l7 H7 hl7 s7 hl77 => ?_)
    have hdd7 := s7 _ _ (s6 _ _ hdd5)
    repeat walk_at "s"
    refine ⟨l7, [decide (i = 0), decide (i = 1), decide (i = 2), decide (i = 3), decide (i = 4), decide (i = 5), decide (i = 6), decide (i = 7), decide (i = 8), decide (i = 9), decide (i = 10), decide (i = 11), decide (i = 12), decide (i = 13)], true, rfl, rfl, .of hl77, ?_⟩
    rw [count_one hi]
    repeat walk_at "s"
    refine r_isXCl ec hdd7 kL ?_
    repeat walk_at "s"
    refine .inr ⟨false, rfl, ?_⟩
    dsimp only
    repeat walk_at "s"
    refine r_xf2 ?_
    repeat walk_at "s"
    refine ⟨rfl, D, dd, _, .str y, rfl, xf, nw, rfl, hdd7, hy, ?_⟩
    repeat walk_at "s"
    refine r_isStr (S := []) (.str y) ?_
    repeat walk_at "s"
    refine .inr ⟨false, rfl, ?_⟩
    dsimp only
    repeat walk_at "s"
    exact k H7 fun b o e => s7 b o (s6 b o (s5 b o (s4 b o (s3 b o (s2 b o (s1 b o e))))))
end
end L03

open PySem L2 PyProof.Rows J

namespace L03
section
variable {P : Program} {w : World} {K : PySem.W.Frag} {mg : Str → Option Value} {base : Heap}
/-! ### the source of draws -/
def SrcAt (H : Hp) (p : Addr) (n : Int) : Prop := ∃ a b c : Int, H p = some (.lst [.int a, .int b, .int c]) ∧ 0 ≤ c ∧ c ≤ n
theorem SrcAt.mono {H : Hp} {p : Addr} {n m : Int} (h : SrcAt H p n) (l : n ≤ m) : SrcAt H p m := by
  obtain ⟨a, b, c, h1, h2, h3⟩ := h
  exact ⟨a, b, c, h1, h2, by omega⟩
theorem SrcAt.but {H H' : Hp} {p : Addr} {n : Int} {S : List Addr} (h : SrcAt H p n) (b : But S H H') (hp : p ∉ S) : SrcAt H' p n := by
  obtain ⟨a, b1, c, h1, h2⟩ := h
  exact ⟨a, b1, c, b.at h1 hp, h2⟩
theorem SrcAt.same {H H' : Hp} {p : Addr} {n : Int} (h : SrcAt H p n) (b : Same H H') : SrcAt H' p n := h.but (But.of_same (S := []) b) (by simp)
theorem SrcAt.live {H : Hp} {p : Addr} {n : Int} (h : SrcAt H p n) : H p ≠ none := by
  obtain ⟨a, b1, c, h1, _⟩ := h
  exact live_of h1
theorem src_same {H H' : Hp} {p : Addr} {n : Int} (b : Same H H') (h : SrcAt H p n) : SrcAt H' p n := h.same b
theorem src_but {H H' : Hp} {p : Addr} {n : Int} {S : List Addr} (b : But S H H') (h : SrcAt H p n) (hp : p ∉ S) : SrcAt H' p n := h.but b hp
local macro_rules | `(tactic| walk_at "src") => `(tactic| first
  | assumption
  | (refine L03.src_same (by assumption) ?_; walk_at "src")
  | (refine L03.src_but (by assumption) ?_ ?_; walk_at "src"; walk_at "ni"))
def spCell (K : PySem.W.Frag) : Sp := fun vs H Q _ => ∃ (a : Addr) (ns : List Int) (k : Int), vs = [.ref a, .int k] ∧ SqL K H a (ns.map V.int) ∧ 0 ≤ k ∧
  ns.length ≤ 100 ∧ ∀ z, Q (.int z) H
abbrev s_law_cell_at : Stmt := top 28
abbrev N_law_cell_at : List Str := ["_law_script", "_law_k"]
theorem sc_law_cell_at : FnScope N_law_cell_at ["_law_script", "_law_k"] (defScope s_law_cell_at) :=
  ⟨rfl, rfl, rfl, by decide +kernel, rfl, by decide +kernel, by decide +kernel⟩

theorem ok_cell {f : Addr} {fd : FuncData} (F : Fun K "_law_cell_at" "_law_cell_at" s_law_cell_at f fd) (B : Bl mg) :
    FnOk P w K mg base CX0 1 f fd ["_law_script", "_law_k"] (spCell K) := by
  refine F.ok sc_law_cell_at (fun vs H Q E h => ?_) (fun cdv A outer s H vs Q E hr h => ?_)
  · obtain ⟨_, _, _, rfl, _⟩ := h
    rfl
  · obtain ⟨a, ns, i, rfl, ha, h0, hl, k⟩ := h
    have hu := hu_of hr
    have nd := sc_law_cell_at.nd
    refine ⟨_, (pss_cons (ps_if (pt_cmpR op_ltA (pv 1) (pe_callB (call_lenA (K := K)) rfl B.len PySem.boot_len (pa_cons (pv 0) pa_nil)) (nomark _)) (pss_one (ps_ret (pe_ix (ix_any (K := K)) (pv 0) (pv 1) (fun _ _ => rfl)))) pss_nil)
      (pss_one (ps_ret pe_int))), ?_⟩
    repeat walk_at "s"
    refine r_ite (fun hi => ?_) (fun hi => ?_)
    · repeat walk_at "s"
      obtain ⟨n, rfl⟩ := Int.eq_ofNat_of_zero_le h0
      rw [List.length_map] at hi
      have hn : n < ns.length := by omega
      refine r_ixL (v := .int (ns[n])) ha (atI_nat (by simp [hn])) ?_
      exact k _
    · repeat walk_at "s"
      exact k _
def spWell : Sp := fun vs H Q _ => ∃ c : Int, vs = [.int c] ∧ ∀ p H', H p = none → Same H H' → SrcAt H' p 0 → Q (.ref p) H'
abbrev s_law_well : Stmt := top 29
abbrev N_law_well : List Str := ["_law_cell"]
theorem sc_law_well : FnScope N_law_well ["_law_cell"] (defScope s_law_well) :=
  ⟨rfl, rfl, rfl, by decide +kernel, rfl, by decide +kernel, by decide +kernel⟩

theorem ok_well {f : Addr} {fd : FuncData} (F : Fun K "_law_well" "_law_well" s_law_well f fd) (B : Bl mg) :
    FnOk P w K mg base CX0 1 f fd ["_law_cell"] spWell := by
  refine F.ok sc_law_well (fun vs H Q E h => ?_) (fun cdv A outer s H vs Q E hr h => ?_)
  · obtain ⟨_, rfl, _⟩ := h
    rfl
  · obtain ⟨c, rfl, k⟩ := h
    have hu := hu_of hr
    have nd := sc_law_well.nd
    refine ⟨_, (pss_one (ps_ret (pe_lst (pa_cons (pe_ix (ix_any (K := K)) (pe_lst (pa_cons pe_int (pa_cons (pv 0) pa_nil))) (pe_callTy call_int1 rfl B.int (by decide +kernel) (pa_cons (pe_cmpR op_ge (pv 0) (pe_op op_pow pe_int pe_int) (nomark _)) pa_nil)) (fun _ _ => rfl)) (pa_cons (pv 0) (pa_cons pe_int pa_nil)))))), ?_⟩
    repeat walk_at "s"
    refine r_newL (sz (Nat.le_of_ble_eq_true rfl)) (fun l H1 hl s1 hl1 => ?_)
    repeat walk_at "s"
    have fin : ∀ H2 (i : Int), Same H H2 → NewL Q [.int i, .int c, .int 0] H2 := fun H2 i s2 => by
      refine r_newL (sz (Nat.le_of_ble_eq_true rfl)) (fun p H3 hp s3 hp3 => ?_)
      exact k p H3 ((But.of_same (S := []) s2).free hp) (fun b o e => s3 b o (s2 b o e)) ⟨_, _, _, hp3, by omega, by omega⟩
    refine .inr ⟨_, rfl, ?_⟩
    dsimp only
    split
    · repeat walk_at "s"
      exact fin _ _ s1
    · repeat walk_at "s"
      exact fin _ _ s1
def spDraw : Sp := fun vs H Q _ => ∃ (p : Addr) (n size : Int), vs = [.ref p, .int size] ∧ SrcAt H p n ∧ n ≤ 2 ^ 40 ∧
  0 < size ∧ size < 1073741824 ∧ ∀ d H', 0 ≤ d → d < size → But [p] H H' → SrcAt H' p (n + 1) → Q (.int d) H'
abbrev s_law_draw : Stmt := top 30
abbrev N_law_draw : List Str := ["_law_well_here", "_law_many", "_law_found", "_law_salt", "_law_number"]
theorem sc_law_draw : FnScope N_law_draw ["_law_well_here", "_law_many"] (defScope s_law_draw) :=
  ⟨rfl, rfl, rfl, by decide +kernel, rfl, by decide +kernel, by decide +kernel⟩

theorem ok_draw {f : Addr} {fd : FuncData} (F : Fun K "_law_draw" "_law_draw" s_law_draw f fd) (B : Bl mg) :
    FnOk P w K mg base CX0 1 f fd ["_law_well_here", "_law_many"] spDraw := by
  refine F.ok sc_law_draw (fun vs H Q E h => ?_) (fun cdv A outer s H vs Q E hr h => ?_)
  · obtain ⟨_, _, _, rfl, _⟩ := h
    rfl
  · obtain ⟨p, n, size, rfl, ⟨a, b, c, hp, hc0, hc1⟩, hn, hs0, hs1, k⟩ := h
    have hu := hu_of hr
    have nd := sc_law_draw.nd
    refine ⟨_, (pss_cons (ps_if (pt_cmpR op_gt (pe_ix (ix_any (K := K)) (pv 0) pe_int (fun _ _ => rfl)) pe_int (nomark _)) (pss_cons (ps_set (i := 2) nd rfl (by first | exact Or.inl rfl | exact Or.inr rfl) (pe_op op_mod (pe_ix (ix_any (K := K)) (pv 0) pe_int (fun _ _ => rfl)) (pv 1)))
      (pss_cons (ps_asg (pe_op op_fdiv (pe_ix (ix_any (K := K)) (pv 0) pe_int (fun _ _ => rfl)) (pv 1)) (pg_sub (pv 0) pe_int set_list))
      (pss_one (ps_ret (pv 2))))) pss_nil)
      (pss_cons (ps_asg (pe_op (op_addA (K := K)) (pe_ix (ix_any (K := K)) (pv 0) pe_int (fun _ _ => rfl)) pe_int) (pg_sub (pv 0) pe_int set_list))
      (pss_cons (ps_set (i := 3) nd rfl (by first | exact Or.inl rfl | exact Or.inr rfl) (pe_op op_mod (pe_op op_fdivW (pe_ix (ix_any (K := K)) (pv 0) pe_int (fun _ _ => rfl)) pe_int) pe_int))
      (pss_cons (ps_set (i := 4) nd rfl (by first | exact Or.inl rfl | exact Or.inr rfl) (pe_op op_mod (pe_op op_pow (pe_op (op_addA (K := K)) (pe_op (op_addA (K := K)) (pe_op (op_addA (K := K)) (pe_op op_mod (pe_ix (ix_any (K := K)) (pv 0) pe_int (fun _ _ => rfl)) pe_int) (pe_op (op_mulA (K := K)) pe_int (pe_ix (ix_any (K := K)) (pv 0) pe_int (fun _ _ => rfl)))) (pv 3)) pe_int) pe_int) pe_int))
      (pss_cons (ps_set (i := 4) nd rfl (by first | exact Or.inl rfl | exact Or.inr rfl) (pe_op op_mod (pe_op (op_mulA (K := K)) (pv 4) (pe_op (op_addA (K := K)) (pe_op (op_addA (K := K)) (pe_op op_fdiv (pv 4) pe_int) pe_int) (pe_ix (ix_any (K := K)) (pv 0) pe_int (fun _ _ => rfl)))) pe_int))
      (pss_one (ps_ret (pe_op op_mod (pe_op op_mod (pe_op (op_mulA (K := K)) (pv 4) (pe_op (op_addA (K := K)) (pe_op op_fdiv (pv 4) pe_int) pe_int)) pe_int) (pv 1))))))))), ?_⟩
    repeat walk_at "s"
    refine r_ite (fun ha => ?_) (fun ha => ?_)
    · repeat (first | walk_at "s" | (refine .inl ⟨_, rfl, ?_⟩; try dsimp only))
      refine s_lst hp (by rfl) (fun H' b' hp' => ?_)
      repeat walk_at "s"
      exact k _ _ (Int.emod_nonneg _ (by omega)) (Int.emod_lt_of_pos _ hs0) b' ⟨_, _, _, hp', hc0, by omega⟩
    · repeat walk_at "s"
      refine s_lst hp (by rfl) (fun H' b' hp' => ?_)
      repeat walk_at "s"
      refine r_I (C := CDivW) ⟨by decide, by decide +kernel⟩ ?_
      repeat (first | walk_at "s" | (refine .inl ⟨_, rfl, ?_⟩; try dsimp only))
      exact k _ _ (Int.emod_nonneg _ (by omega)) (Int.emod_lt_of_pos _ hs0) b' ⟨_, _, _, hp', by omega, by omega⟩
def spOne (K : PySem.W.Frag) : Sp := fun vs H Q _ => ∃ (p l : Addr) (n : Int) (xs : List V), vs = [.ref p, .ref l] ∧ SrcAt H p n ∧ n ≤ 2 ^ 40 ∧ l ≠ p ∧
  SqL K H l xs ∧ xs ≠ [] ∧ xs.length ≤ 100000 ∧ ∀ (i : Nat) v H', xs[i]? = some v → But [p] H H' → SrcAt H' p (n + 1) → Q v H'
abbrev s_law_one : Stmt := top 31
abbrev N_law_one : List Str := ["_law_well_here", "_law_some"]
theorem sc_law_one : FnScope N_law_one ["_law_well_here", "_law_some"] (defScope s_law_one) :=
  ⟨rfl, rfl, rfl, by decide +kernel, rfl, by decide +kernel, by decide +kernel⟩

theorem ok_one {f : Addr} {fd : FuncData} (F : Fun K "_law_one" "_law_one" s_law_one f fd) (B : Bl mg)
    (C_law_draw : Cl P w K mg base CX0 1 "_law_draw" spDraw) :
    FnOk P w K mg base CX0 2 f fd ["_law_well_here", "_law_some"] (spOne K) := by
  refine F.ok sc_law_one (fun vs H Q E h => ?_) (fun cdv A outer s H vs Q E hr h => ?_)
  · obtain ⟨_, _, _, _, rfl, _⟩ := h
    rfl
  · obtain ⟨p, l, n, xs, rfl, hp, hn, hlp, hl, hne, hz, k⟩ := h
    have hu := hu_of hr
    have nd := sc_law_one.nd
    refine ⟨_, (pss_one (ps_ret (pe_ix (ix_any (K := K)) (pv 1) (pe_cl (E := fun _ => E0) C_law_draw hr (by decide) pass00 (pa_cons (pv 0) (pa_cons (pe_callB (call_lenA (K := K)) rfl B.len PySem.boot_len (pa_cons (pv 1) pa_nil)) pa_nil))) (fun _ _ => rfl)))), ?_⟩
    repeat walk_at "s"
    have hpos : 0 < xs.length := List.length_pos_iff.mpr hne
    refine ⟨p, n, xs.length, rfl, hp, hn, by omega, by omega, fun d H' h0 h1 b' hp' => ?_⟩
    obtain ⟨m, rfl⟩ := Int.eq_ofNat_of_zero_le h0
    have hm : m < xs.length := by omega
    refine r_ixL (b'.sqL hl (by simpa using hlp)) (atI_nat (List.getElem?_eq_getElem hm)) ?_
    exact k m _ _ (List.getElem?_eq_getElem hm) b' hp'
end
end L03

open PySem L2 PyProof.Rows J

namespace L03
section
variable {P : Program} {w : World} {K : PySem.W.Frag} {mg : Str → Option Value} {base : Heap} {CDisk CLayout : Addr}
/-! ### pending, choices, disks behind a crash -/
abbrev s_Disk_pending : Stmt := inClass (top 23) 6
abbrev N_Disk_pending : List Str := ["self"]
theorem sc_Disk_pending : FnScope N_Disk_pending ["self"] (defScope s_Disk_pending) :=
  ⟨rfl, rfl, rfl, by decide +kernel, rfl, by decide +kernel, by decide +kernel⟩

theorem ok_Disk_pending {f : Addr} {fd : FuncData} (F : Fun K "pending" "Disk.pending" s_Disk_pending f fd) (B : Bl mg) (T : TDisk K CDisk) :
    FnOk P w K mg base CX0 1 f fd ["self"] (spCopyOf K CDisk fun D => D.writes.map dWr) := by
  refine F.ok sc_Disk_pending (fun vs H Q E h => ?_) (fun cdv A outer s H vs Q E hr h => ?_)
  · obtain ⟨_, _, _, _, _, rfl, _⟩ := h
    rfl
  · obtain ⟨d, fd, n, m, D, rfl, ⟨ok, dx, l1, l2, l3, l4, x1, x2, x3, x4, rfl, hnd, h0, h1, h2, h3, h4, v1, v2, v3, v4⟩, k⟩ := h
    have nd := sc_Disk_pending.nd
    obtain ⟨cl, n1, n2, n3, n4⟩ := T
    refine ⟨_, (pss_one (ps_ret (pe_callTy (call_listA (K := K)) rfl B.list (by decide +kernel) (pa_cons (pe_fldA (K := K) (pv 0)) pa_nil)))), ?_⟩
    repeat walk_at "s"
    refine r_listL (.of h3) (fun l H1 hl s1 hl1 => ?_)
    exact k l x3 H1 hl s1 hl1 (v3.same s1)
/-- ascending indices below a count -/
structure Choice (c : Nat) (ns : List Nat) : Prop where
  up : ns.Pairwise (· < ·)
  hi : ∀ x ∈ ns, x < c
def spChoice (K : PySem.W.Frag) : Sp := fun vs H Q _ => ∃ (a : Addr) (ns : List Nat) (c : Nat), vs = [.ref a, .int c] ∧ H a = some (.lst (ns.map fun i : Nat => V.int i)) ∧ Choice c ns ∧ ∀ H', Same H H' → Q .non H'
theorem choice_len : ∀ (ns : List Nat) (c k : Nat), ns.Pairwise (· < ·) → (∀ x ∈ ns, k ≤ x ∧ x < c) → ns.length + k ≤ c ∨ ns = []
  | [], _, _, _, _ => .inr rfl
  | a :: r, c, k, h, hi => by
    have h1 := List.pairwise_cons.mp h
    have ha := hi a List.mem_cons_self
    rcases choice_len r c (a + 1) h1.2 (fun x hx => ⟨h1.1 x hx, (hi x (List.mem_cons_of_mem _ hx)).2⟩) with e | e
    · rw [List.length_cons]; omega
    · subst e
      rw [List.length_singleton]; omega
theorem Choice.len {c : Nat} {ns : List Nat} (h : Choice c ns) : ns.length ≤ c := by
  rcases choice_len ns c 0 h.up (fun x hx => ⟨Nat.zero_le _, h.hi x hx⟩) with e | e
  · omega
  · rw [e]; exact Nat.zero_le _
abbrev s_check_choice : Stmt := top 24
abbrev N_check_choice : List Str := ["kept", "count", "last", "at", "index"]
theorem sc_check_choice : FnScope N_check_choice ["kept", "count"] (defScope s_check_choice) :=
  ⟨rfl, rfl, rfl, by decide +kernel, rfl, by decide +kernel, by decide +kernel⟩

theorem ok_check_choice {f : Addr} {fd : FuncData} (F : Fun K "check_choice" "check_choice" s_check_choice f fd) (B : Bl mg) (C_is_between : ClK P w K mg base CX0 2 "is_between" 1 ["low", "high"] (spBet K)) :
    FnOk P w K mg base CX0 3 f fd ["kept", "count"] (spChoice K) := by
  refine F.ok sc_check_choice (fun vs H Q E h => ?_) (fun cdv A outer s H vs Q E hr h => ?_)
  · obtain ⟨_, _, _, rfl, _⟩ := h
    rfl
  · obtain ⟨a, ns, c, rfl, ha, hc, k⟩ := h
    have hu := hu_of hr
    have nd := sc_check_choice.nd
    refine ⟨_, (pss_cons (ps_if (pt_not (pt_tru (K := K) (pe_callB (call_isiA (K := K)) rfl B.isinstance (by decide +kernel) (pa_cons (pv 0) (pa_cons (pe_tyN (T := "list") rfl B.list (by decide +kernel)) pa_nil))))) (pss_one (ps_dead)) pss_nil)
      (pss_cons (ps_set (i := 2) nd rfl (by first | exact Or.inl rfl | exact Or.inr rfl) (pe_un un_neg pe_int))
      (pss_one (ps_for PassesOwn.never rfl (pi_enum rfl B.enumerate (pa_cons (pv 0) pa_nil)) (pg_tpl (K := K) rfl (pgs_cons (pg_name (i := 3) nd rfl (by first | exact Or.inl rfl | exact Or.inr rfl)) (pgs_cons (pg_name (i := 4) nd rfl (by first | exact Or.inl rfl | exact Or.inr rfl)) pgs_nil)))
      (pss_cons (ps_if (pt_not (pt_tru (K := K) (pe_clK C_is_between hr (by decide) (pa_cons (pv 4) pa_nil) (pk_cons (pe_op (op_addA (K := K)) (pv 2) pe_int) (pk_cons (pe_op op_sub (pv 1) pe_int) pk_nil))))) (pss_one (ps_dead)) pss_nil)
      (pss_one (ps_set (i := 2) nd rfl (by first | exact Or.inl rfl | exact Or.inr rfl) (pv 4)))))))), ?_⟩
    repeat walk_at "s"
    refine r_isList (S := []) (d := .list ((ns.map fun i : Nat => (i : Int)).map .int)) ?_ ?_
    · refine .lst (xs := (ns.map fun i : Nat => (i : Int)).map V.int) ?_ List.not_mem_nil DnAll.ints
      rw [List.map_map]; exact ha
    repeat walk_at "s"
    refine r_iteF rfl ?_
    repeat walk_at "s"
    refine r_U ?_
    repeat walk_at "s"
    refine forE (.of ha) (fun i σ H' => ∃ last o3 o4, σ = [some (.ref a), some (.int c), some (.int last), o3, o4] ∧ Same H H' ∧ -1 ≤ last ∧ ∀ x ∈ ns.drop i, last < (x : Int))
      ⟨_, _, _, rfl, fun _ _ e => e, by decide, fun x _ => by omega⟩ ?_ ?_ ?_
    · rintro i σ H1 hi ⟨last, o3, o4, rfl, s1, _⟩
      exact .of (s1 _ _ ha)
    · rintro i x σ H1 hi ⟨last, o3, o4, rfl, s1, hl0, hl⟩ T H2 hT s2 hT2
      obtain ⟨n, hn, rfl⟩ := map_getG hi
      have hdr : ns.drop i = n :: ns.drop (i + 1) := by
        obtain ⟨hlt, rfl⟩ := List.getElem?_eq_some_iff.mp hn
        exact List.drop_eq_getElem_cons hlt
      have hln := hl n (by rw [hdr]; exact List.mem_cons_self)
      have hnc := hc.hi n (List.mem_of_getElem? hn)
      repeat walk_at "s"
      refine ⟨_, [], .int n, last + 1, _, rfl, .int _, ?_⟩
      rw [bet_iff.mpr ⟨by omega, by omega⟩]
      repeat walk_at "s"
      refine r_iteF rfl ?_
      repeat walk_at "s"
      refine ⟨_, _, _, rfl, fun b o e => s2 b o (s1 b o e), by omega, fun x hx => ?_⟩
      have hp := hc.up.sublist (List.drop_sublist i ns)
      rw [hdr] at hp
      have := (List.pairwise_cons.mp hp).1 x hx
      omega
    · rintro σ H1 ⟨last, o3, o4, rfl, s1, _⟩
      exact k H1 s1
def spBegin (K : PySem.W.Frag) (CDisk : Addr) : Sp := fun vs H Q _ => ∃ (a : Addr) (xs : List V) (vals : List PyData), vs = [.ref a] ∧ H a = some (.lst xs) ∧ DnAll K [] H xs vals ∧ (∀ v ∈ vals, blockB v = true) ∧ 1 ≤ vals.length ∧ vals.length ≤ 128 ∧
  ∀ d ls H', Fr (d :: ls) H → Same H H' → DiskAt K CDisk H' d (d :: ls) vals.length 0 ⟨vals, vals, [], []⟩ → Q (.ref d) H'
abbrev s_beginning_with : Stmt := top 25
abbrev N_beginning_with : List Str := ["values", "disk"]
theorem sc_beginning_with : FnScope N_beginning_with ["values"] (defScope s_beginning_with) :=
  ⟨rfl, rfl, rfl, by decide +kernel, rfl, by decide +kernel, by decide +kernel⟩

theorem ok_beginning_with {f : Addr} {fd : FuncData} (F : Fun K "beginning_with" "beginning_with" s_beginning_with f fd) (B : Bl mg) (T : TDisk K CDisk) (N_Disk : C8.Mak P w K mg base 3 "Disk" CDisk (spDiskInit K CDisk) []) :
    FnOk P w K mg base CX0 5 f fd ["values"] (spBegin K CDisk) := by
  refine F.ok sc_beginning_with (fun vs H Q E h => ?_) (fun cdv A outer s H vs Q E hr h => ?_)
  · obtain ⟨_, _, _, rfl, _⟩ := h
    rfl
  · obtain ⟨a, xs, vals, rfl, ha, hx, hb, h1, h2, k⟩ := h
    have nd := sc_beginning_with.nd
    obtain ⟨cl, n1, n2, n3, n4⟩ := T
    have xl : xs.length = vals.length := hx.length
    have nlv : noLs vals = true := noLs_all.mpr fun v hv => blockB_nol (hb v hv)
    refine ⟨_, (pss_cons (ps_set (i := 1) nd rfl (by first | exact Or.inl rfl | exact Or.inr rfl) (C8.pe_mk N_Disk hr (by decide) rfl (pa_cons (pe_callB (call_lenA (K := K)) rfl B.len PySem.boot_len (pa_cons (pv 0) pa_nil)) pa_nil)))
      (pss_cons (ps_fldA (K := K) (pv 1) (pe_callTy (call_listA (K := K)) rfl B.list (by decide +kernel) (pa_cons (pv 0) pa_nil)))
      (pss_cons (ps_fldA (K := K) (pv 1) (pe_callTy (call_listA (K := K)) rfl B.list (by decide +kernel) (pa_cons (pv 0) pa_nil)))
      (pss_one (ps_ret (pv 1)))))), ?_⟩
    repeat walk_at "s"
    rw [xl]
    refine r_makeAt (fun d dx H1 hd s1 hd1 => ?_)
    refine ⟨d, dx, vals.length, rfl, hd1, h1, h2, fun ls H2 hls b2 hD => ⟨rfl, ?_⟩⟩
    obtain ⟨ok, dx', l1, l2, l3, l4, x1, x2, x3, x4, efd, hnd, g0, g1, g2, g3, g4, v1, v2, v3, v4⟩ := hD
    obtain rfl : ls = [l1, l2, l3, l4] := (List.cons.inj efd).2
    simp only [List.nodup_cons, List.mem_cons, List.not_mem_nil, or_false, not_or, not_false_eq_true, List.nodup_nil, and_true] at hnd
    obtain ⟨⟨a1, a2, a3, a4⟩, ⟨a12, a13, a14⟩, ⟨a23, a24⟩, a34⟩ := hnd
    have b02 : But [] H H2 := bt_but (But.of_same s1) b2 (bc_fr hd bc_nil)
    have ha2 : H2 a = some (.lst xs) := b02.at ha List.not_mem_nil
    have fls : Fr [l1, l2, l3, l4] H := fun t ht => (But.of_same (S := []) s1).free (hls t ht)
    have na : a ≠ d := fun z => live_of ha (z ▸ hd)
    clear b2 s1
    repeat walk_at "s"
    refine r_listL (.of ha2) (fun l5 H3 hl5 s3 hl53 => ?_)
    repeat walk_at "s"
    refine r_setAt (s3 _ _ g0) cl n1 (Nat.le_of_ble_eq_true rfl) (fun H4 b4 g04 => ?_)
    repeat walk_at "s"
    have ha4 : H4 a = some (.lst xs) := b4.at (s3 _ _ ha2) (by simpa using na)
    refine r_listL (.of ha4) (fun l6 H5 hl6 s5 hl65 => ?_)
    repeat walk_at "s"
    refine r_setAt (s5 _ _ g04) cl n2 (Nat.le_of_ble_eq_true rfl) (fun H6 b6 g06 => ?_)
    repeat walk_at "s"
    have lvd : H2 d ≠ none := live_of g0
    have lvd4 : H4 d ≠ none := live_of g04
    have e53 : l5 ≠ d := fun z => lvd (z ▸ hl5)
    have e63 : l6 ≠ d := fun z => lvd4 (z ▸ hl6)
    have e56 : l5 ≠ l6 := fun z => live_of (b4.at hl53 (by simpa using e53)) (z ▸ hl6)
    have c3 : l3 ≠ d := Ne.symm a3
    have c4 : l4 ≠ d := Ne.symm a4
    have g34 : H4 l3 = some (.lst x3) := b4.at (s3 _ _ g3) (by simpa using c3)
    have g44 : H4 l4 = some (.lst x4) := b4.at (s3 _ _ g4) (by simpa using c4)
    have e35 : l5 ≠ l3 := fun z => live_of g3 (z ▸ hl5)
    have e45 : l5 ≠ l4 := fun z => live_of g4 (z ▸ hl5)
    have e36 : l6 ≠ l3 := fun z => live_of g34 (z ▸ hl6)
    have e46 : l6 ≠ l4 := fun z => live_of g44 (z ▸ hl6)
    have f5 : H6 l5 = some (.lst xs) := b6.at (s5 _ _ (b4.at hl53 (by simpa using e53))) (by simpa using e53)
    have f6 : H6 l6 = some (.lst xs) := b6.at hl65 (by simpa using e63)
    have f3 : H6 l3 = some (.lst x3) := b6.at (s5 _ _ g34) (by simpa using c3)
    have f4 : H6 l4 = some (.lst x4) := b6.at (s5 _ _ g44) (by simpa using c4)
    have b26 : But [d] H2 H6 := ((But.of_same s3).trans b4).trans ((But.of_same s5).trans b6)
    have b06 : But [] H H6 := bt_but b02 b26 (bc_fr hd bc_nil)
    have x30 : x3 = [] := v3.nil_inv
    have x40 : x4 = [] := v4.nil_inv
    subst x30
    subst x40
    have hx6 : DnAll K [] H6 xs vals := hx.nlb nlv b06
    have fr5 : H l5 = none := b02.free hl5
    have fr6 : H l6 = none := (bt_but b02 ((But.of_same s3).trans b4) (bc_fr hd bc_nil) : But [] H H4).free hl6
    refine k d [l5, l6, l3, l4] H6 ?_ b06.same ⟨⟨h1, h2, rfl, rfl, hb, hb, by simp, by simp, Nat.le_refl _, Nat.le_refl _⟩, dx', l5, l6, l3, l4, xs, xs, [], [], rfl, ?_, g06, f5, f6, f3, f4, hx6, hx6, .nil, .nil⟩
    · intro t ht
      simp only [List.mem_cons, List.not_mem_nil, or_false] at ht
      rcases ht with rfl | rfl | rfl | rfl | rfl
      · exact hd
      · exact fr5
      · exact fr6
      · exact fls _ (by simp)
      · exact fls _ (by simp)
    · simp only [List.nodup_cons, List.mem_cons, List.not_mem_nil, or_false, not_or, not_false_eq_true, List.nodup_nil, and_true]
      exact ⟨⟨e53.symm, e63.symm, a3, a4⟩, ⟨e56, e35, e45⟩, ⟨e36, e46⟩, a34⟩
def spCrashed (K : PySem.W.Frag) (CDisk : Addr) : Sp := fun vs H Q _ => ∃ (d a : Addr) (fd : List Addr) (n m : Nat) (D : DM) (ns : List Nat), vs = [.ref d, .ref a] ∧ DiskAt K CDisk H d fd n m D ∧ H a = some (.lst (ns.map fun i : Nat => V.int i)) ∧ Choice D.writes.length ns ∧ m ≤ 100000 ∧
  ∀ e ls H', Fr (e :: ls) H → Same H H' → DiskAt K CDisk H' e (e :: ls) n 0 (D.crash ns) → Q (.ref e) H'
theorem keepW_mem {D : DM} {ns : List Nat} (h : Choice D.writes.length ns) {u : Int × PyData} (hu : u ∈ D.keepW ns) : u ∈ D.writes := by
  obtain ⟨i, hi, rfl⟩ := List.mem_map.mp hu
  rw [List.getD_eq_getElem?_getD, List.getElem?_eq_getElem (h.hi i hi)]
  exact List.getElem_mem (h.hi i hi)
abbrev s_Disk_crashed : Stmt := inClass (top 23) 10
abbrev N_Disk_crashed : List Str := ["self", "kept", "values", "at", "block", "value"]
theorem sc_Disk_crashed : FnScope N_Disk_crashed ["self", "kept"] (defScope s_Disk_crashed) :=
  ⟨rfl, rfl, rfl, by decide +kernel, rfl, by decide +kernel, by decide +kernel⟩

theorem ok_Disk_crashed {f : Addr} {fd : FuncData} (F : Fun K "crashed" "Disk.crashed" s_Disk_crashed f fd) (B : Bl mg) (T : TDisk K CDisk) (C_check_choice : Cl P w K mg base CX0 3 "check_choice" (spChoice K)) (C_beginning_with : Cl P w K mg base CX0 5 "beginning_with" (spBegin K CDisk)) :
    FnOk P w K mg base CX0 6 f fd ["self", "kept"] (spCrashed K CDisk) := by
  refine F.ok sc_Disk_crashed (fun vs H Q E h => ?_) (fun cdv A outer s H vs Q E hr h => ?_)
  · obtain ⟨_, _, _, _, _, _, _, rfl, _⟩ := h
    rfl
  · obtain ⟨d, a, fd, n, m, D, ns, rfl, hD, ha, hc, hm, k⟩ := h
    obtain ⟨ok, dx, l1, l2, l3, l4, x1, x2, x3, x4, rfl, hnd, h0, h1, h2, h3, h4, v1, v2, v3, v4⟩ := id hD
    have nd := sc_Disk_crashed.nd
    obtain ⟨cl, n1, n2, n3, n4⟩ := T
    have x3l : x3.length = D.writes.length := by rw [v3.length, List.length_map]
    refine ⟨_, (pss_cons (ps_expr (pe_cl (E := fun _ => E0) C_check_choice hr (by decide) pass00 (pa_cons (pv 1) (pa_cons (pe_callB (call_lenA (K := K)) rfl B.len PySem.boot_len (pa_cons (pe_fldA (K := K) (pv 0)) pa_nil)) pa_nil))))
      (pss_cons (ps_set (i := 2) nd rfl (by first | exact Or.inl rfl | exact Or.inr rfl) (pe_callTy (call_listA (K := K)) rfl B.list (by decide +kernel) (pa_cons (pe_fldA (K := K) (pv 0)) pa_nil)))
      (pss_cons (ps_for PassesOwn.never rfl (pi_lst (K := K) (pv 1)) (pg_name (i := 3) nd rfl (by first | exact Or.inl rfl | exact Or.inr rfl))
      (pss_cons (ps_asg (pe_ix (ix_any (K := K)) (pe_fldA (K := K) (pv 0)) (pv 3) (fun _ _ => rfl)) (pg_tpl (K := K) rfl (pgs_cons (pg_name (i := 4) nd rfl (by first | exact Or.inl rfl | exact Or.inr rfl)) (pgs_cons (pg_name (i := 5) nd rfl (by first | exact Or.inl rfl | exact Or.inr rfl)) pgs_nil))))
      (pss_one (ps_asg (pv 5) (pg_sub (pv 2) (pv 4) set_list)))))
      (pss_one (ps_ret (pe_cl (E := fun _ => E0) C_beginning_with hr (by decide) pass00 (pa_cons (pv 2) pa_nil))))))), ?_⟩
    repeat walk_at "s"
    rw [x3l]
    refine ⟨a, ns, _, rfl, ha, hc, fun H1 s1 => ?_⟩
    repeat walk_at "s"
    refine r_listL (.of (s1 _ _ h2)) (fun l H2 hl s2 hl2 => ?_)
    have s02 : Same H H2 := fun b o e => s2 b o (s1 b o e)
    have fl : H l = none := (But.of_same (S := []) s1).free hl
    have nal : a ≠ l := ne_of_none ha fl
    have n3l : l3 ≠ l := ne_of_none h3 fl
    clear s1 s2
    repeat walk_at "s"
    refine forL (.of (s02 _ _ ha)) (fun i σ H' => ∃ o3 o4 o5 ys, σ = [some (.ref d), some (.ref a), some (.ref l), o3, o4, o5] ∧ But [l] H2 H' ∧ H' l = some (.lst ys) ∧ DnAll K [] H' ys (putAll ((D.keepW ns).take i) D.safe))
      ⟨_, _, _, _, rfl, .refl, hl2, v2.same s02⟩ ?_ ?_ ?_
    · rintro i σ H3 hi ⟨o3, o4, o5, ys, rfl, b3, hl3, hys⟩
      exact .of (b3.at (s02 _ _ ha) (by simpa using nal))
    · rintro i x σ H3 hi ⟨o3, o4, o5, ys, rfl, b3, hl3, hys⟩
      obtain ⟨j, hj, rfl⟩ := map_getG hi
      have hjm := List.mem_of_getElem? hj
      have hjl := hc.hi j hjm
      have hku : (D.keepW ns)[i]? = some (D.writes.getD j (0, .none)) := by
        unfold DM.keepW
        rw [List.getElem?_map, hj]; rfl
      generalize hu : D.writes.getD j (0, .none) = u at hku
      have hu2 : D.writes[j]? = some u := by
        rw [← hu, List.getD_eq_getElem?_getD, List.getElem?_eq_getElem hjl]; rfl
      obtain ⟨y, hy, hyd⟩ := v3.getD (i := j) (d := dWr u) (by rw [List.getElem?_map, hu2]; rfl)
      obtain ⟨p, z, rfl, hp, hz⟩ := wr_inv hyd
      obtain ⟨hb0, hb1, hvv⟩ := ok.wv u (List.mem_of_getElem? hu2)
      obtain ⟨bn, hbn⟩ := Int.eq_ofNat_of_zero_le hb0
      have yl : ys.length = n := by rw [hys.length, putAll_length, ok.sl]
      have b03 : But [l] H H3 := (But.of_same s02).trans b3
      have h33 : H3 l3 = some (.lst x3) := b3.at (s02 _ _ h3) (by simpa using n3l)
      have nd_ : d ≠ l := ne_of_none h0 fl
      have h03 : H3 d = some (.ins CDisk dx (diskF l1 l2 l3 l4)) := b3.at (s02 _ _ h0) (by simpa using nd_)
      have hp3 : SqT K H3 p [.int u.1, z] := b03.sqT hp
      have step : putAll ((D.keepW ns).take (i + 1)) D.safe = (putAll ((D.keepW ns).take i) D.safe).set u.1.toNat u.2 := foldl_takeG hku
      repeat walk_at "s"
      refine r_ixL (.of h33) (atI_nat hy) ?_
      repeat walk_at "s"
      rw [hbn]
      refine s_lst hl3 (ixN_nat (by omega)) (fun H4 b4 hl4 => ?_)
      refine ⟨_, _, _, _, rfl, b3.trans b4, hl4, ?_⟩
      rw [step, hbn, Int.toNat_natCast]
      have nls : noLs (putAll ((D.keepW ns).take i) D.safe) = true := noLs_all.mpr fun z hz => by
        rcases putAll_mem hz with hz | ⟨q, hq, rfl⟩
        · exact blockB_nol (ok.sv z hz)
        · exact blockB_nol (ok.wv q (keepW_mem hc (List.mem_of_mem_take hq))).2.2
      exact DnAll.set bn (hys.nlb nls b4) (hz.nlb (blockB_nol hvv) (b03.trans b4))
    · rintro σ H3 ⟨o3, o4, o5, ys, rfl, b3, hl3, hys⟩
      have e3 : (D.keepW ns).length = ns.length := List.length_map ..
      rw [List.length_map, ← e3, List.take_length] at hys
      have s03 : Same H H3 := (bt_but (But.of_same s02) b3 (bc_fr fl bc_nil) : But [] H H3).same
      clear b3 s02
      repeat walk_at "s"
      have vl : (putAll (D.keepW ns) D.safe).length = n := by rw [putAll_length, ok.sl]
      refine ⟨l, ys, _, rfl, hl3, hys, fun v hv => ?_, by have := ok.n1; omega, by have := ok.n2; omega, fun e ls H4 hf s4 hE => ?_⟩
      · rcases putAll_mem hv with hv | ⟨q, hq, rfl⟩
        · exact ok.sv v hv
        · exact (ok.wv q (keepW_mem hc hq)).2.2
      · rw [vl] at hE
        exact k e ls H4 (fun t ht => (But.of_same (S := []) s03).free (hf t ht)) (fun b o e => s4 b o (s03 b o e)) hE
end
end L03

open PySem L2 PyProof.Rows J
local macro_rules | `(tactic| walk_at "mv") => `(tactic| with_reducible first
  | exact (J.mv_slots ..) | exact (J.mv_homes ..) | exact (J.mv_next ..) | exact (J.mv_head ..) | exact (J.mv_kept ..) | exact (J.mv_copies ..) | exact (J.mv_revokes ..) | exact (J.mv_rule ..) | exact (J.mv_disk ..) | exact (J.mv_events ..)
  | exact (J.kv_number ..) | exact (J.kv_size ..) | exact (J.kv_copies ..) | exact (J.kv_revokes ..) | exact (J.kv_slot ..) | exact (J.kv_left ..))
local macro_rules | `(tactic| walk_at "s") => `(tactic| first
  | with_reducible refine J.r_pcons ?_
  | with_reducible refine J.r_pnil ?_
  | ((with_reducible apply J.r_dAtS); (walk_at "hp"); (walk_at "mv")))

namespace L03
/-! ### all lists of ascending indices -/
def subs : Nat → List (List Int)
  | 0 => [[]]
  | n + 1 => subs n ++ (subs n).map (· ++ [(n : Int)])
def rowD (r : List Int) : PyData := .list (r.map .int)
theorem subs_len : ∀ n, (subs n).length = 2 ^ n
  | 0 => rfl
  | n + 1 => by
    unfold subs
    rw [List.length_append, List.length_map, subs_len n, Nat.pow_succ]
    omega
theorem subs_asc : ∀ n, ∀ r ∈ subs n, ∃ ns : List Nat, r = ns.map (fun i : Nat => (i : Int)) ∧ ns.Pairwise (· < ·) ∧ ∀ i ∈ ns, i < n
  | 0, r, h => ⟨[], by rw [List.mem_singleton.mp h]; rfl, .nil, fun _ h => nomatch h⟩
  | n + 1, r, h => by
    unfold subs at h
    rcases List.mem_append.mp h with h | h
    · obtain ⟨ns, h1, h2, h3⟩ := subs_asc n r h
      exact ⟨ns, h1, h2, fun i hi => Nat.lt_succ_of_lt (h3 i hi)⟩
    · obtain ⟨q, hq, rfl⟩ := List.mem_map.mp h
      obtain ⟨ns, rfl, h2, h3⟩ := subs_asc n q hq
      refine ⟨ns ++ [n], by rw [List.map_append]; rfl, List.pairwise_append.mpr ⟨h2, List.pairwise_singleton _ _, fun a ha b hb => by rw [List.mem_singleton.mp hb]; exact h3 a ha⟩, fun i hi => ?_⟩
      rcases List.mem_append.mp hi with hi | hi
      · exact Nat.lt_succ_of_lt (h3 i hi)
      · rw [List.mem_singleton.mp hi]; exact Nat.lt_succ_self n
theorem subs_wid : ∀ n, ∀ r ∈ subs n, r.length ≤ n
  | 0, r, h => by rw [List.mem_singleton.mp h]; exact Nat.le_refl _
  | n + 1, r, h => by
    unfold subs at h
    rcases List.mem_append.mp h with h | h
    · exact Nat.le_succ_of_le (subs_wid n r h)
    · obtain ⟨q, hq, rfl⟩ := List.mem_map.mp h
      have := subs_wid n q hq
      rw [List.length_append]
      show q.length + 1 ≤ n + 1
      omega
theorem rows_alike (n : Nat) : PySem.W.AllAlike ((subs n).map rowD) := PySem.W.AllAlike.of fun b b' => by
  show PySem.W.alike (.list _) (.list _) = true
  unfold PySem.W.alike
  exact PySem.W.alike_ints b b'
theorem rows_sortable (n : Nat) : PySem.W.Sortable ((subs n).map rowD) := PySem.W.Sortable.others (enc := rowD) fun b => ⟨fun z => (nomatch z), fun xs z => (nomatch z)⟩
theorem sh_row (r : List Int) {k : Nat} : Sh (k + 1) (rowD r) := Sh.ints
theorem rows_dep (n : Nat) : ∀ d ∈ (subs n).map rowD, d.depth ≤ 60 := fun d hd => by
  obtain ⟨r, _, rfl⟩ := List.mem_map.mp hd
  exact Nat.le_trans (sh_row r (k := 0)).dep (by decide)
theorem sorted_mem {d : PyData} {ds : List PyData} : d ∈ sortedD ds ↔ d ∈ ds := (List.mergeSort_perm ds _).mem_iff
theorem sorted_len {ds : List PyData} : (sortedD ds).length = ds.length := (List.mergeSort_perm ds _).length_eq
theorem sh_sorted (n : Nat) : Sh 2 (.list (sortedD ((subs n).map rowD))) := Sh.list fun d hd => by
  obtain ⟨r, _, rfl⟩ := List.mem_map.mp (sorted_mem.mp hd)
  exact sh_row r
section
variable {P : Program} {w : World} {K : PySem.W.Frag} {mg : Str → Option Value} {base : Heap} {CDisk : Addr}
def spAll (K : PySem.W.Frag) : Sp := fun vs H Q _ => ∃ (n : Nat) (S : List Addr), vs = [.int n] ∧ n ≤ 11 ∧ Live S H ∧
  ∀ l ys H', H l = none → Same H H' → H' l = some (.lst ys) → DnAll K S H' ys (sortedD ((subs n).map rowD)) → Q (.ref l) H'
abbrev s_law_all : Stmt := top 32
abbrev N_law_all : List Str := ["_law_count", "_law_found", "_law_at", "_law_some"]
theorem sc_law_all : FnScope N_law_all ["_law_count"] (defScope s_law_all) :=
  ⟨rfl, rfl, rfl, by decide +kernel, rfl, by decide +kernel, by decide +kernel⟩

theorem ok_all {f : Addr} {fd : FuncData} (F : Fun K "_law_all" "_law_all" s_law_all f fd) (B : Bl mg) :
    FnOk P w K mg base CX0 1 f fd ["_law_count"] (spAll K) := by
  refine F.ok sc_law_all (fun vs H Q E h => ?_) (fun cdv A outer s H vs Q E hr h => ?_)
  · obtain ⟨_, _, rfl, _⟩ := h
    rfl
  · obtain ⟨n, S, rfl, hn, hS, k⟩ := h
    have hu := hu_of hr
    have nd := sc_law_all.nd
    refine ⟨_, (pss_cons (ps_set (i := 1) nd rfl (by first | exact Or.inl rfl | exact Or.inr rfl) (pe_lst (pa_cons (pe_lst pa_nil) pa_nil)))
      (pss_cons (ps_for PassesOwn.never rfl (pi_range1 rfl B.range (pa_cons (pv 0) pa_nil)) (pg_name (i := 2) nd rfl (by first | exact Or.inl rfl | exact Or.inr rfl))
      (pss_one (ps_set (i := 1) nd rfl (by first | exact Or.inl rfl | exact Or.inr rfl) (pe_op (op_addA (K := K)) (pv 1) (pe_lc (own := [("_law_some", 3)]) (g := (gName 3)) (tt := tYes) rfl nd (pi_lst (K := K) (pv 1)) (blkOk_by (own := [("_law_some", 3)]) (N := N_law_all) (sc := defScope s_law_all) (by decide +kernel)) (fun _ _ _ _ _ => (pg_name (i := 3) nd rfl (by first | exact Or.inl rfl | exact Or.inr rfl))) (fun _ _ _ _ _ => pts_nil) (fun _ _ _ _ _ => pe_op (op_addA (K := K)) (pv 3) (pe_lst (pa_cons (pv 2) pa_nil))))))))
      (pss_one (ps_ret (pe_callB (call_sortD (K := K) hr.units) rfl B.sorted (by decide +kernel) (pa_cons (pv 1) pa_nil)))))), ?_⟩
    repeat walk_at "s"
    refine r_newL (sz (Nat.le_of_ble_eq_true rfl)) (fun l0 H1 hl0 s1 hl01 => ?_)
    repeat walk_at "s"
    refine r_newL (sz (Nat.le_of_ble_eq_true rfl)) (fun l1 H2 hl1 s2 hl12 => ?_)
    have hS1 := hS.but (But.of_same (S := []) s1)
    have d0 : DnAll K S H2 [.ref l0] ((subs 0).map rowD) := .one (.lst (s2 _ _ hl01) (hS.ne hl0) .nil)
    repeat walk_at "s"
    have hp11 : 2 ^ n ≤ 2048 := Nat.le_trans (Nat.pow_le_pow_right (by decide) hn) (by decide)
    refine forR ⟨by omega, by omega⟩ (fun i σ H' => ∃ (l : Addr) (xs : List V) (o2 o3 : Option V), σ = [some (.int n), some (.ref l), o2, o3] ∧ Same H H' ∧ H l = none ∧ H' l = some (.lst xs) ∧ DnAll K S H' xs ((subs i).map rowD)) ⟨l1, _, _, _, rfl, fun b o e => s2 b o (s1 b o e), (But.of_same (S := []) s1).free hl1, hl12, d0⟩ ?_ ?_
    · rintro i σ H3 hi ⟨l, xs, o2, o3, rfl, s3, fl, hl, hd⟩
      have hi' : i < n := by omega
      have hp : 2 ^ i ≤ 1024 := Nat.le_trans (Nat.pow_le_pow_right (by decide) (show i ≤ 10 by omega)) (by decide)
      have hxl : xs.length = 2 ^ i := by rw [hd.length, List.length_map, subs_len]
      have hS3 := hS.but (But.of_same (S := []) s3)
      repeat walk_at "s"
      refine lcL (.of hl) (fun lc H4 hlc s4 hlc4 => ⟨fun j H5 => ∃ ys, But [lc] H4 H5 ∧ H5 lc = some (.lst ys) ∧ DnAll K (lc :: S) H5 ys ((((subs i).take j).map (· ++ [(i : Int)])).map rowD), ⟨[], But.refl, hlc4, by simp; exact .nil⟩, ?_, ?_, ?_⟩)
      · rintro j H5 _ ⟨ys, b5, _⟩
        exact .of (b5.at (s4 _ _ hl) (fun z => live_of hl (by rw [List.mem_singleton.mp z]; exact hlc)))
      · rintro j x H5 hx ⟨ys, b5, hlc5, hys⟩
        obtain ⟨d, hdj, hdx⟩ := hd.get hx
        rw [List.getElem?_map] at hdj
        obtain ⟨r, hr', rfl⟩ := Option.map_eq_some_iff.mp hdj
        have hdx5 := ((hdx.fresh hlc).same s4 |>.but b5 (fun t ht => by rw [List.mem_singleton.mp ht]; exact List.mem_cons_self))
        obtain ⟨ax, ws, rfl, hax, nax, hws⟩ := hdx5.lst_inv
        have hj : j < (subs i).length := (List.getElem?_eq_some_iff.mp hr').1
        have hys_len : ys.length ≤ 1024 := by
          rw [hys.length, List.length_map, List.length_map, List.length_take]
          rw [subs_len] at hj ⊢
          omega
        have hwl : ws.length ≤ 1000 := by
          have e := hws.length
          have e2 := subs_wid i r (List.mem_of_getElem? hr')
          rw [List.length_map] at e
          omega
        repeat walk_at "s"
        refine ⟨rfl, ?_⟩
        refine r_yes ?_
        refine r_iteT rfl ?_
        repeat walk_at "s"
        refine r_newL (sz (Nat.le_of_ble_eq_true rfl)) (fun q H6 hq s6 hq6 => ?_)
        repeat walk_at "s"
        refine r_addL (s6 _ _ hax) hq6 (sz (by simp; omega)) (fun q2 H7 hq2 s7 hq27 => ?_)
        have nl : ∀ {t : Addr} {H' : Hp}, (∀ b, H5 b ≠ none → H' b ≠ none) → H' t = none → t ∉ lc :: S := fun le ht z => by
          rcases List.mem_cons.mp z with rfl | z
          · exact le _ (live_of hlc5) ht
          · exact le _ (b5.live _ ((But.of_same (S := []) s4).live _ (hS3 _ z))) ht
        have dq : Dn K (lc :: S) H7 (.ref q2) (rowD (r ++ [(i : Int)])) := by
          refine .lst hq27 (nl (fun b h => (But.of_same (S := []) s6).live b h) hq2) ?_
          rw [List.map_append]
          exact ((hws.same s6).same s7).append (.one (.int _))
        have s57 : Same H5 H7 := fun b o e => s7 b o (s6 b o e)
        refine lc_put (N := fun H8 => ∃ ys, But [lc] H4 H8 ∧ H8 lc = some (.lst ys) ∧ DnAll K (lc :: S) H8 ys ((((subs i).take (j + 1)).map (· ++ [(i : Int)])).map rowD)) (s57 _ _ hlc5) (szl (by omega)) ?_
        intro H8 b8 hl8
        refine ⟨_, b5.trans ((But.of_same s57).trans b8), hl8, ?_⟩
        have et : (subs i).take (j + 1) = (subs i).take j ++ [r] := by rw [List.take_add_one, hr']; rfl
        rw [et, List.map_append, List.map_append]
        exact ((hys.same s57).but b8 (fun t ht => by rw [List.mem_singleton.mp ht]; exact List.mem_cons_self)).append (.one (dq.but b8 (fun t ht => by rw [List.mem_singleton.mp ht]; exact List.mem_cons_self)))
      · rintro H5 ⟨ys, b5, hlc5, hys⟩
        have s35 : Same H3 H5 := (bt_but (But.of_same s4) b5 (bc_fr hlc bc_nil) : But [] H3 H5).same
        have hys' : DnAll K S H5 ys (((subs i).map (· ++ [(i : Int)])).map rowD) := by
          have e : (subs i).take xs.length = subs i := List.take_of_length_le (by rw [hxl, subs_len]; exact Nat.le_refl _)
          rw [e] at hys
          exact hys.sub fun t ht => List.mem_cons_of_mem _ ht
        have hyl : ys.length = 2 ^ i := by rw [hys'.length, List.length_map, List.length_map, subs_len]
        repeat walk_at "s"
        refine r_addL (s35 _ _ hl) hlc5 (sz (by omega)) (fun l2 H6 hl2 s6 hl26 => ?_)
        repeat walk_at "s"
        refine ⟨l2, _, _, _, rfl, fun b o e => s6 b o (s35 b o (s3 b o e)), (But.of_same (S := []) (fun b o e => s35 b o (s3 b o e))).free hl2, hl26, ?_⟩
        unfold subs
        rw [List.map_append]
        exact ((hd.same s35).same s6).append (hys'.same s6)
    · rintro σ H3 ⟨l, xs, o2, o3, rfl, s3, fl, hl, hd⟩
      repeat walk_at "s"
      refine r_sortD (.of hl) hd (by rw [Int.toNat_natCast]; exact rows_alike n) (by rw [Int.toNat_natCast]; exact rows_sortable n) (by rw [Int.toNat_natCast]; exact rows_dep n) (fun l2 ys H4 hl2 s4 hl24 hy _ => ?_)
      rw [Int.toNat_natCast] at hy
      exact k l2 ys H4 ((But.of_same (S := []) s3).free hl2) (fun b o e => s4 b o (s3 b o e)) hl24 hy
end
end L03

open PySem L2 PyProof.Rows J


namespace L03
section
variable {P : Program} {w : World} {K : PySem.W.Frag} {mg : Str → Option Value} {base : Heap} {CDisk CTM : Addr}
abbrev s_TooMany_init : Stmt := inClass (top 7) 0
abbrev N_TooMany_init : List Str := ["self", "limit"]
theorem sc_TooMany_init : FnScope N_TooMany_init ["self", "limit"] (defScope s_TooMany_init) :=
  ⟨rfl, rfl, rfl, by decide +kernel, rfl, by decide +kernel, by decide +kernel⟩
theorem ok_TooMany_init {f : Addr} {fd : FuncData} (F : Fun K "__init__" "TooMany.__init__" s_TooMany_init f fd) (N_LogError_init : CFn P w K mg base CX0 1 "LogError" "__init__" (spX K ["why"] foWhy)) :
    FnOk P w K mg base CX0 2 f fd ["self", "limit"] (spX K ["why", "limit"] (fo1 "limit" "too many")) := by
  refine F.ok sc_TooMany_init (fun vs H Q E h => ?_) (fun cdv A outer s H vs Q E hr h => ?_)
  · obtain ⟨a, C, ws, fs, rfl, hf, _⟩ := h
    match ws, hf with
    | [x], _ => rfl
  · obtain ⟨a, C, ws, fs, rfl, hf, T, hn, ha, k⟩ := h
    obtain ⟨x, rfl, rfl⟩ : ∃ x, ws = [x] ∧ fs = [(("limit" : Str), x), ("why", .str "too many")] := by
      match ws, hf with
      | [x], hf => exact ⟨x, rfl, (Option.some.inj hf).symm⟩
    have nd := sc_TooMany_init.nd
    refine ⟨_, (pss_cons (ps_expr (pe_cfn (E := fun _ => E0) N_LogError_init hr (by decide) pass00 (pa_cons (pv 0) (pa_cons pe_str pa_nil))))
      (pss_one (ps_ost (pv 0) (pv 1)))), ?_⟩
    repeat walk_at "s"
    refine ⟨a, C, [.str "too many"], _, rfl, rfl, T, fun n h => hn n (by rw [List.mem_singleton.mp h]; exact List.mem_cons_self), ha, fun dx H1 hd hda h1 h2 h3 => ?_⟩
    repeat walk_at "s"
    refine ⟨a, C, rfl, T, hn "limit" (by simp), .inr ⟨dx, _, h1, h2, Nat.le_of_ble_eq_true rfl, ?_⟩⟩
    refine k dx _ hd hda ?_ upd_same (fun b hb hb2 => ?_)
    · rw [upd_ne (Ne.symm hda)]; exact h1
    · rw [upd_ne hb2, h3 b hb hb2]

def spCC (K : PySem.W.Frag) (CDisk : Addr) : Sp := fun vs H Q _ => ∃ (d : Addr) (fd : List Addr) (n m : Nat) (D : DM) (S : List Addr), vs = [.ref d] ∧ DiskAt K CDisk H d fd n m D ∧ D.writes.length ≤ 10 ∧ Live S H ∧
  ∀ l ys H', H l = none → Same H H' → H' l = some (.lst ys) → DnAll K S H' ys (sortedD ((subs D.writes.length).map rowD)) → Q (.ref l) H'
abbrev s_crash_choices : Stmt := top 26
abbrev N_crash_choices : List Str := ["disk", "count", "found", "at", "kept"]
theorem sc_crash_choices : FnScope N_crash_choices ["disk"] (defScope s_crash_choices) :=
  ⟨rfl, rfl, rfl, by decide +kernel, rfl, by decide +kernel, by decide +kernel⟩

theorem ok_crash_choices {f : Addr} {fd : FuncData} (F : Fun K "crash_choices" "crash_choices" s_crash_choices f fd) (B : Bl mg) (G : Gi mg) (M_Disk_pending : C8.Met P w K mg base 1 CDisk "pending" (spCopyOf K CDisk fun D => D.writes.map dWr) []) :
    FnOk P w K mg base CX0 2 f fd ["disk"] (spCC K CDisk) := by
  refine F.ok sc_crash_choices (fun vs H Q E h => ?_) (fun cdv A outer s H vs Q E hr h => ?_)
  · obtain ⟨_, _, _, _, _, _, rfl, _⟩ := h
    rfl
  · obtain ⟨d, fd, nn, m, D, S, rfl, hD, hn, hS, k⟩ := h
    have hu := hu_of hr
    have nd := sc_crash_choices.nd
    obtain ⟨_, dxd, q1, q2, q3, q4, x1, x2, x3, x4, efd, hnd, hd0, _⟩ := id hD
    refine ⟨_, (pss_cons (ps_set (i := 1) nd rfl (by first | exact Or.inl rfl | exact Or.inr rfl) (pe_callB (call_lenA (K := K)) rfl B.len PySem.boot_len (pa_cons (C8.pe_mt0 M_Disk_pending hr (by decide) (pv 0)) pa_nil)))
      (pss_cons (ps_if (pt_cmpR op_gt (pv 1) (pe_gintE rfl G.MOST_CHOSEN) (nomark _)) (pss_one (ps_dead)) pss_nil)
      (pss_cons (ps_set (i := 2) nd rfl (by first | exact Or.inl rfl | exact Or.inr rfl) (pe_lst (pa_cons (pe_lst pa_nil) pa_nil)))
      (pss_cons (ps_for PassesOwn.never rfl (pi_range1 rfl B.range (pa_cons (pv 1) pa_nil)) (pg_name (i := 3) nd rfl (by first | exact Or.inl rfl | exact Or.inr rfl))
      (pss_one (ps_aug (i := 2) nd rfl (by first | exact Or.inl rfl | exact Or.inr rfl) (pe_lc (own := [("kept", 4)]) (g := (gName 4)) (tt := tYes) rfl nd (pi_lst (K := K) (pv 2)) (blkOk_by (own := [("kept", 4)]) (N := N_crash_choices) (sc := defScope s_crash_choices) (by decide +kernel)) (fun _ _ _ _ _ => (pg_name (i := 4) nd rfl (by first | exact Or.inl rfl | exact Or.inr rfl))) (fun _ _ _ _ _ => pts_nil) (fun _ _ _ _ _ => pe_op (op_addA (K := K)) (pv 4) (pe_lst (pa_cons (pv 3) pa_nil)))) ip_addA)))
      (pss_one (ps_ret (pe_callB (call_sortD (K := K) hr.units) rfl B.sorted (by decide +kernel) (pa_cons (pv 2) pa_nil)))))))), ?_⟩
    repeat walk_at "s"
    refine r_methAt hd0 (by with_unfolding_all rfl) ?_
    refine ⟨d, fd, _, _, _, rfl, hD, fun la xa Ha hla sa hla1 va => ?_⟩
    repeat walk_at "s"
    have el : xa.length = D.writes.length := by rw [va.length, List.length_map]
    generalize D.writes.length = n at el hn k
    rw [el]
    have sHa := sa
    refine r_iteF (decide_eq_false (by omega)) ?_
    repeat walk_at "s"
    refine r_newL (sz (Nat.le_of_ble_eq_true rfl)) (fun l0 H1 hl0 s1 hl01 => ?_)
    repeat walk_at "s"
    refine r_newL (sz (Nat.le_of_ble_eq_true rfl)) (fun l H2 hl1 s2 hl12 => ?_)
    have hSa := hS.but (But.of_same (S := []) sa)
    have s02 : Same H H2 := fun b o e => s2 b o (s1 b o (sa b o e))
    have fl : H l = none := (But.of_same (S := []) fun b o e => s1 b o (sa b o e)).free hl1
    have d0 : DnAll K (l :: S) H2 [.ref l0] ((subs 0).map rowD) := by
      refine .one (.lst (s2 _ _ hl01) (fun z => ?_) .nil)
      rcases List.mem_cons.mp z with z | z
      · rw [z, hl1] at hl01; cases hl01
      · exact hSa.ne hl0 z
    clear hla1 va hla
    repeat walk_at "s"
    have hp11 : 2 ^ n ≤ 1024 := Nat.le_trans (Nat.pow_le_pow_right (by decide) hn) (by decide)
    refine forR ⟨by omega, by omega⟩ (fun i σ H' => ∃ (xs : List V) (o3 o4 : Option V), σ = [some (.ref d), some (.int n), some (.ref l), o3, o4] ∧ Same H H' ∧ H' l = some (.lst xs) ∧ DnAll K (l :: S) H' xs ((subs i).map rowD)) ⟨_, _, _, rfl, s02, hl12, d0⟩ ?_ ?_
    · rintro i σ H3 hi ⟨xs, o3, o4, rfl, s3, hl, hd⟩
      have hi' : i < n := by omega
      have hp : 2 ^ i ≤ 512 := Nat.le_trans (Nat.pow_le_pow_right (by decide) (show i ≤ 9 by omega)) (by decide)
      have hxl : xs.length = 2 ^ i := by rw [hd.length, List.length_map, subs_len]
      have hS3 : Live (l :: S) H3 := .cons hl (hS.but (But.of_same (S := []) s3))
      repeat walk_at "s"
      refine lcL (.of hl) (fun lc H4 hlc s4 hlc4 => ⟨fun j H5 => ∃ ys, But [lc] H4 H5 ∧ H5 lc = some (.lst ys) ∧ DnAll K (lc :: l :: S) H5 ys ((((subs i).take j).map (· ++ [(i : Int)])).map rowD), ⟨[], But.refl, hlc4, by simp; exact .nil⟩, ?_, ?_, ?_⟩)
      · rintro j H5 _ ⟨ys, b5, _⟩
        exact .of (b5.at (s4 _ _ hl) (fun z => live_of hl (by rw [List.mem_singleton.mp z]; exact hlc)))
      · rintro j x H5 hx ⟨ys, b5, hlc5, hys⟩
        obtain ⟨d, hdj, hdx⟩ := hd.get hx
        rw [List.getElem?_map] at hdj
        obtain ⟨r, hr', rfl⟩ := Option.map_eq_some_iff.mp hdj
        have hdx5 := ((hdx.fresh hlc).same s4 |>.but b5 (fun t ht => by rw [List.mem_singleton.mp ht]; exact List.mem_cons_self))
        obtain ⟨ax, ws, rfl, hax, nax, hws⟩ := hdx5.lst_inv
        have hj : j < (subs i).length := (List.getElem?_eq_some_iff.mp hr').1
        have hys_len : ys.length ≤ 1024 := by
          rw [hys.length, List.length_map, List.length_map, List.length_take]
          rw [subs_len] at hj ⊢
          omega
        have hwl : ws.length ≤ 1000 := by
          have e := hws.length
          have e2 := subs_wid i r (List.mem_of_getElem? hr')
          rw [List.length_map] at e
          omega
        repeat walk_at "s"
        refine ⟨rfl, ?_⟩
        refine r_yes ?_
        refine r_iteT rfl ?_
        repeat walk_at "s"
        refine r_newL (sz (Nat.le_of_ble_eq_true rfl)) (fun q H6 hq s6 hq6 => ?_)
        repeat walk_at "s"
        refine r_addL (s6 _ _ hax) hq6 (sz (by simp; omega)) (fun q2 H7 hq2 s7 hq27 => ?_)
        have nl : ∀ {t : Addr} {H' : Hp}, (∀ b, H5 b ≠ none → H' b ≠ none) → H' t = none → t ∉ lc :: l :: S := fun le ht z => by
          rcases List.mem_cons.mp z with rfl | z
          · exact le _ (live_of hlc5) ht
          · exact le _ (b5.live _ ((But.of_same (S := []) s4).live _ (hS3 _ z))) ht
        have dq : Dn K (lc :: l :: S) H7 (.ref q2) (rowD (r ++ [(i : Int)])) := by
          refine .lst hq27 (nl (fun b h => (But.of_same (S := []) s6).live b h) hq2) ?_
          rw [List.map_append]
          exact ((hws.same s6).same s7).append (.one (.int _))
        have s57 : Same H5 H7 := fun b o e => s7 b o (s6 b o e)
        refine lc_put (N := fun H8 => ∃ ys, But [lc] H4 H8 ∧ H8 lc = some (.lst ys) ∧ DnAll K (lc :: l :: S) H8 ys ((((subs i).take (j + 1)).map (· ++ [(i : Int)])).map rowD)) (s57 _ _ hlc5) (szl (by omega)) ?_
        intro H8 b8 hl8
        refine ⟨_, b5.trans ((But.of_same s57).trans b8), hl8, ?_⟩
        have et : (subs i).take (j + 1) = (subs i).take j ++ [r] := by rw [List.take_add_one, hr']; rfl
        rw [et, List.map_append, List.map_append]
        exact ((hys.same s57).but b8 (fun t ht => by rw [List.mem_singleton.mp ht]; exact List.mem_cons_self)).append (.one (dq.but b8 (fun t ht => by rw [List.mem_singleton.mp ht]; exact List.mem_cons_self)))
      · rintro H5 ⟨ys, b5, hlc5, hys⟩
        have s35 : Same H3 H5 := (bt_but (But.of_same s4) b5 (bc_fr hlc bc_nil) : But [] H3 H5).same
        have hys' : DnAll K (l :: S) H5 ys (((subs i).map (· ++ [(i : Int)])).map rowD) := by
          have e : (subs i).take xs.length = subs i := List.take_of_length_le (by rw [hxl, subs_len]; exact Nat.le_refl _)
          rw [e] at hys
          exact hys.sub fun t ht => List.mem_cons_of_mem _ ht
        have hyl : ys.length = 2 ^ i := by rw [hys'.length, List.length_map, List.length_map, subs_len]
        repeat walk_at "s"
        refine r_ext (s35 _ _ hl) hlc5 (sz (by omega)) (fun H6 b6 hl26 => ?_)
        repeat walk_at "s"
        have b06 : But [] H H6 := bt_but (But.of_same fun b o e => s35 b o (s3 b o e)) b6 (bc_fr fl bc_nil)
        have tl : ∀ t ∈ [l], t ∈ l :: S := fun t ht => by rw [List.mem_singleton.mp ht]; exact List.mem_cons_self
        refine ⟨_, _, _, rfl, b06.same, hl26, ?_⟩
        unfold subs
        rw [List.map_append]
        exact ((hd.same s35).but b6 tl).append (hys'.but b6 tl)
    · rintro σ H3 ⟨xs, o3, o4, rfl, s3, hl, hd⟩
      repeat walk_at "s"
      refine r_sortD (.of hl) hd (by rw [Int.toNat_natCast]; exact rows_alike n) (by rw [Int.toNat_natCast]; exact rows_sortable n) (by rw [Int.toNat_natCast]; exact rows_dep n) (fun l2 ys H4 hl2 s4 hl24 hy _ => ?_)
      rw [Int.toNat_natCast] at hy
      exact k l2 ys H4 ((But.of_same (S := []) s3).free hl2) (fun b o e => s4 b o (s3 b o e)) hl24 (hy.sub fun t ht => List.mem_cons_of_mem _ ht)
def limitF (x : V) : List (Str × V) := [("limit", x), ("why", .str "too many")]
def spCCF (K : PySem.W.Frag) (CDisk CTM : Addr) : Sp := fun vs H _ E => ∃ (d : Addr) (fd : List Addr) (n m : Nat) (D : DM), vs = [.ref d] ∧ DiskAt K CDisk H d fd n m D ∧ 10 < D.writes.length ∧ Raised CTM (limitF (.int 10)) H E
theorem ok_crash_choicesF {f : Addr} {fd : FuncData} (F : Fun K "crash_choices" "crash_choices" s_crash_choices f fd) (B : Bl mg) (G : Gi mg) (M_Disk_pending : C8.Met P w K mg base 1 CDisk "pending" (spCopyOf K CDisk fun D => D.writes.map dWr) []) (X_TooMany : XErr P w K mg base "TooMany" "limit" "too many" CTM)
    (XN : ∀ n ∈ (["why", "limit"] : List Str), PySem.W.findIn K (.ref CTM) n = some none) :
    FnOk P w K mg base (L2.CX P w) 4 f fd ["disk"] (spCCF K CDisk CTM) := by
  refine F.okX sc_crash_choices (fun vs H Q E h => ?_) (fun cdv A outer s H vs Q E hr h => ?_)
  · obtain ⟨_, _, _, _, _, rfl, _⟩ := h
    rfl
  · obtain ⟨d, fd, n, m, D, rfl, hD, hn, k⟩ := h
    have hu := hu_of hr
    have nd := sc_crash_choices.nd
    obtain ⟨_, dxd, q1, q2, q3, q4, x1, x2, x3, x4, efd, hnd, hd0, _⟩ := id hD
    obtain ⟨_, _, _, _, oT, _⟩ := X_TooMany.ex
    refine ⟨_, (pss_cons (ps_set (i := 1) nd rfl (by first | exact Or.inl rfl | exact Or.inr rfl) (pe_callB (call_lenA (K := K)) rfl B.len PySem.boot_len (pa_cons (C8.pe_mt0 M_Disk_pending hr (by decide) (pv 0)) pa_nil)))
      (pss_cons (ps_if (pt_cmpR op_gt (pv 1) (pe_gintE rfl G.MOST_CHOSEN) (nomark _)) (pss_one (ps_raise rfl (takes_of rfl rfl rfl rfl) (pmk_x X_TooMany hr (by decide) (pa_cons (pe_gintE rfl G.MOST_CHOSEN) pa_nil)))) pss_nil)
      (pss_cons (ps_set (i := 2) nd rfl (by first | exact Or.inl rfl | exact Or.inr rfl) (pe_lst (pa_cons (pe_lst pa_nil) pa_nil)))
      (pss_cons (ps_for (passes_of rfl) rfl (pi_range1 rfl B.range (pa_cons (pv 1) pa_nil)) (pg_name (i := 3) nd rfl (by first | exact Or.inl rfl | exact Or.inr rfl))
      (pss_one (ps_aug (i := 2) nd rfl (by first | exact Or.inl rfl | exact Or.inr rfl) (pe_lc (own := [("kept", 4)]) (g := (gName 4)) (tt := tYes) rfl nd (pi_lst (K := K) (pv 2)) (blkOk_by (own := [("kept", 4)]) (N := N_crash_choices) (sc := defScope s_crash_choices) (by decide +kernel)) (fun _ _ _ _ _ => (pg_name (i := 4) nd rfl (by first | exact Or.inl rfl | exact Or.inr rfl))) (fun _ _ _ _ _ => pts_nil) (fun _ _ _ _ _ => pe_op (op_addA (K := K)) (pv 4) (pe_lst (pa_cons (pv 3) pa_nil)))) ip_addA)))
      (pss_one (ps_ret (pe_callB (call_sortD (K := K) hr.units) rfl B.sorted (by decide +kernel) (pa_cons (pv 2) pa_nil)))))))), ?_⟩
    repeat walk_at "s"
    refine r_methAt hd0 (by with_unfolding_all rfl) ?_
    refine ⟨d, fd, _, _, _, rfl, hD, fun la xa Ha hla sa hla1 va => ?_⟩
    repeat walk_at "s"
    have el : xa.length = D.writes.length := by rw [va.length, List.length_map]
    refine r_iteT (decide_eq_true (by omega)) ?_
    repeat walk_at "s"
    exact r_mkX ⟨Nat.le_of_ble_eq_true rfl, _, rfl, oT, XN, fun dd H' h1 h2 h3 => k dd H' ((But.of_same (S := []) sa).free h1) (fun b o e => h2 b o (sa b o e)) h3⟩
end
end L03

open PySem L2 PyProof.Rows J


namespace L03
section
variable {P : Program} {w : World} {K : PySem.W.Frag} {mg : Str → Option Value} {base : Heap} {CDisk CTM : Addr}
theorem takes0 {X : Cx} : Takes X (fun _ _ _ _ => False) := fun _ _ x => by
  obtain ⟨_, _, _, _, _, _, _, _, _, _, _, _, _, _, _, _, z⟩ := x
  exact z.elim
def spCCA (K : PySem.W.Frag) (CDisk CTM : Addr) : Sp := fun vs H Q E => spCC K CDisk vs H Q E ∨ spCCF K CDisk CTM vs H Q E
theorem ok_crash_choicesA {f : Addr} {fd : FuncData} (F : Fun K "crash_choices" "crash_choices" s_crash_choices f fd) (B : Bl mg) (G : Gi mg) (M_Disk_pending : C8.Met P w K mg base 1 CDisk "pending" (spCopyOf K CDisk fun D => D.writes.map dWr) []) (X_TooMany : XErr P w K mg base "TooMany" "limit" "too many" CTM)
    (XN : ∀ n ∈ (["why", "limit"] : List Str), PySem.W.findIn K (.ref CTM) n = some none) : FnOk P w K mg base (L2.CX P w) 4 f fd ["disk"] (spCCA K CDisk CTM) :=
  fn_or (fn_lift (fn_mono (ok_crash_choices F B G M_Disk_pending) (by decide))) (ok_crash_choicesF F B G M_Disk_pending X_TooMany XN)
/-! ### told -/
def spTold (K : PySem.W.Frag) (CDisk : Addr) : Sp := fun vs H Q _ => ∃ (d : Addr) (fd : List Addr) (n m : Nat) (D : DM) (S : List Addr), vs = [.ref d] ∧ DiskAt K CDisk H d fd n m D ∧ Live S H ∧
  ∀ l ys H', H l = none → Same H H' → H' l = some (.lst ys) → ((D.writes.length ≤ 10 ∧ DnAll K S H' ys (sortedD ((subs D.writes.length).map rowD))) ∨ (10 < D.writes.length ∧ ys = [.bl true, .int 10])) → Q (.ref l) H'
abbrev s_law_told : Stmt := top 34
abbrev N_law_told : List Str := ["_law_disk", "_law_e"]
theorem sc_law_told : FnScope N_law_told ["_law_disk"] (defScope s_law_told) :=
  ⟨rfl, rfl, rfl, by decide +kernel, rfl, by decide +kernel, by decide +kernel⟩

theorem ok_told {f : Addr} {fd : FuncData} (F : Fun K "_law_told" "_law_told" s_law_told f fd) (B : Bl mg) {c0 c1 c2 c3 c4 c5 c6 c7 c8 c9 c10 c11 c12 c13 cL : Addr} (EN : ENames mg c0 c1 c2 c3 c4 c5 c6 c7 c8 c9 c10 c11 c12 c13 cL) (OT : OneOf K c13 13 c0 c1 c2 c3 c4 c5 c6 c7 c8 c9 c10 c11 c12 c13 cL) (nb : PySem.W.findIn K (.ref c13) "limit" = some none) (eT : PySem.W.exmOne K (.ref c13) (.ref cL) = some true)
    (C_crash_choices : Cl P w K mg base (L2.CX P w) 4 "crash_choices" (spCCA K CDisk c13)) (C_law_classes_of : ClP P w K mg base CX0 1 "_law_classes_of" (liftX (spClasses K c0 c1 c2 c3 c4 c5 c6 c7 c8 c9 c10 c11 c12 c13 cL))) :
    FnOk P w K mg base CX0 5 f fd ["_law_disk"] (spTold K CDisk) := by
  refine F.ok sc_law_told (fun vs H Q E h => ?_) (fun cdv A outer s H vs Q E hr h => ?_)
  · obtain ⟨_, _, _, _, _, _, rfl, _⟩ := h
    rfl
  · obtain ⟨d, fd, n, m, D, S, rfl, hD, hS, k⟩ := h
    have hu := hu_of hr
    have nd := sc_law_told.nd
    obtain ⟨gC_BadBlock, gC_BadChoice, gC_BadCount, gC_BadLayout, gC_BadPath, gC_BadRule, gC_BadStep, gC_BadValue, gC_HasEntry, gC_NoEntry, gC_NoRoom, gC_NoSpace, gC_NotEmpty, gC_TooMany, gC_LogError⟩ := EN
    refine ⟨_, (pss_one (ps_try_as (i := 1) rfl rfl nd rfl rfl ⟨rfl, by decide, .inl gC_LogError⟩ takes0 (fun W pn xe tk po => (pss_one (ps_ret (pe_cl (E := WE W) C_crash_choices hr (by decide) (fun σ => passAt tk σ) (pa_cons (pv 0) pa_nil))))) (fun a oe cls d pn hz hf => (pss_one (ps_ret (pe_lst (pa_cons (pe_cmpR (op_eqA (K := K) hr.units) (pe_clX (E := fun _ => E0) C_law_classes_of List.mem_cons_self hz hf (L2H.roomH_mark hr _) (by decide) pass00 (pa_cons (pv 1) pa_nil)) pe_int (nomark _)) (pa_cons (pe_ifExp (pt_tru (K := K) (pe_callB (call_isX (K := K) List.mem_cons_self hz hf) rfl B.isinstance (by decide +kernel) (pa_cons (pv 1) (pa_cons (pe_gcl rfl gC_TooMany) pa_nil)))) (pe_xf2 (K := K) List.mem_cons_self hz hf (pv 1)) pe_non) pa_nil)))))))), ?_⟩
    repeat walk_at "s"
    by_cases hn : D.writes.length ≤ 10
    · refine .inl ⟨d, fd, n, m, D, S, rfl, hD, hn, hS, fun l ys H1 hl s1 hl1 hy => ?_⟩
      exact k l ys H1 hl s1 hl1 (.inl ⟨hn, hy⟩)
    · refine .inr ⟨d, fd, n, m, D, rfl, hD, by omega, fun dd H1 hdd s1 hdd1 => ?_⟩
      refine ⟨true, eT, fun _ a ha => ?_, fun z => by cases z⟩
      repeat walk_at "s"
      refine ⟨c13, dd, 13, _, "too many", rfl, rfl, rfl, OT, by decide, hdd1, by with_unfolding_all rfl, fun H2 s2 => ?_⟩
      have hdd2 := s2 _ _ hdd1
      repeat walk_at "s"
      refine r_isXCl OT.ec hdd2 OT.k13 ?_
      repeat walk_at "s"
      refine r_iteT rfl ?_
      refine r_xf2 ?_
      repeat walk_at "s"
      refine ⟨rfl, c13, dd, _, .int 10, rfl, OT.xf, nb, rfl, hdd2, by with_unfolding_all rfl, ?_⟩
      repeat walk_at "s"
      refine r_newL (sz (Nat.le_of_ble_eq_true rfl)) (fun l H3 hl s3 hl3 => ?_)
      exact k l _ H3 ((But.of_same (S := []) fun b o e => s2 b o (s1 b o e)).free hl) (fun b o e => s3 b o (s2 b o (s1 b o e))) hl3 (.inr ⟨by omega, rfl⟩)
end
end L03

open PySem L2 PyProof.Rows J


namespace L03
theorem bt_frs {S T : List Addr} {H H1 H' : Hp} (h : But S H H1) (b : But T H1 H') (f : Fr T H) : But S H H' := bt_but h b fun t ht => .inr (f t ht)
/-- the writes' values are ints or a text -/
structure WOk (D : DM) : Prop where
  s : ∀ v ∈ D.safe, Ok 200 0 v
  w : ∀ u ∈ D.writes, Ok 200 0 u.2
theorem WOk.new (n : Nat) : WOk (DM.new n) := ⟨fun v hv => by rw [List.eq_of_mem_replicate hv]; exact ⟨rfl, rfl, by decide, by decide +kernel⟩, fun u hu => by simp [DM.new] at hu⟩
theorem WOk.write {D : DM} (h : WOk D) {b : Int} {v : PyData} (hv : Ok 200 0 v) : WOk (D.write b v) := ⟨h.s, fun u hu => by
  rcases List.mem_append.mp hu with hu | hu
  · exact h.w u hu
  · rw [List.mem_singleton.mp hu]; exact hv⟩
theorem putAll_mem {ws : List (Int × PyData)} : ∀ {s : List PyData} {x : PyData}, x ∈ J.putAll ws s → x ∈ s ∨ ∃ u ∈ ws, x = u.2 := by
  unfold J.putAll
  induction ws with
  | nil => intro s x hx; exact .inl hx
  | cons u ws ih =>
    intro s x hx
    rw [List.foldl_cons] at hx
    rcases ih hx with h | ⟨q, hq, h⟩
    · rcases List.mem_or_eq_of_mem_set h with h | h
      · exact .inl h
      · exact .inr ⟨u, List.mem_cons_self, h⟩
    · exact .inr ⟨q, List.mem_cons_of_mem _ hq, h⟩
theorem WOk.flush {D : DM} (h : WOk D) : WOk D.flush := ⟨fun v hv => by
  rcases putAll_mem hv with hv | ⟨u, hu, rfl⟩
  · exact h.s v hv
  · exact h.w u hu, fun u hu => by simp [DM.flush] at hu⟩
def seenD (D : DM) : PyData := .list [.list (D.writes.map dWr), .list D.safe]
theorem okSeen {n k : Nat} {D : DM} (ok : DOk n k D) (v : WOk D) (hk : k ≤ 100) : Ok 2000000 6 (seenD D) := by
  have h1 : Ok 499074 5 (.list (D.writes.map dWr)) := by
    refine (okList (n := 4000) (k := 4) (m := 100) ⟨fun d hd => ?_⟩ (by rw [List.length_map]; have := ok.wl; have := ok.dl; omega)).mono (by decide) (by decide)
    obtain ⟨u, hu, rfl⟩ := List.mem_map.mp hd
    have h := ok.wv u hu
    have h2 := ok.n2
    exact (okTup2 (okInt (m := 68) (i := u.1) (by omega) (by decide) |>.mono (Nat.le_refl _) (by decide)) ((v.w u hu).mono (Nat.le_refl _) (Nat.zero_le 3))).mono (by decide) (by decide)
  have h2 : Ok 499074 5 (.list D.safe) := (okList (n := 200) (k := 0) (m := 128) ⟨v.s⟩ (by rw [ok.sl]; exact ok.n2)).mono (by decide) (by decide)
  exact (okList (n := 499074) (k := 5) (m := 4) (.cons h1 (.cons h2 .nil)) (show 2 ≤ 4 by decide)).mono (by decide) (by decide)
section
variable {P : Program} {w : World} {K : PySem.W.Frag} {mg : Str → Option Value} {base : Heap} {CDisk : Addr}
def spLaw (K : PySem.W.Frag) : Sp := fun vs H Q _ => ∃ (a : Addr) (ns : List Int), vs = [.ref a] ∧ SqL K H a (ns.map V.int) ∧ ns.length ≤ 63 ∧ ∀ H', Q (.bl true) H'
abbrev s_law : Stmt := top 35
abbrev N_law : List Str := ["_law_script", "_law_cell", "_law_well_here", "_law_size", "_law_disk", "_law_many", "_law_k", "_law_seen", "_law_told_here"]
theorem sc_law : FnScope N_law ["_law_script"] (defScope s_law) :=
  ⟨rfl, rfl, rfl, by decide +kernel, rfl, by decide +kernel, by decide +kernel⟩

theorem ok_law {f : Addr} {fd : FuncData} (F : Fun K "law" "law" s_law f fd) (B : Bl mg) (T : TDisk K CDisk)
    (C_law_cell_at : Cl P w K mg base CX0 1 "_law_cell_at" (spCell K)) (C_law_well : Cl P w K mg base CX0 1 "_law_well" spWell) (C_law_draw : Cl P w K mg base CX0 1 "_law_draw" spDraw)
    (N_Disk : C8.Mak P w K mg base 3 "Disk" CDisk (spDiskInit K CDisk) []) (C_law_told : Cl P w K mg base CX0 5 "_law_told" (spTold K CDisk)) (C_law_all : Cl P w K mg base CX0 1 "_law_all" (spAll K))
    (M_Disk_write : C8.Met P w K mg base 12 CDisk "write" (spWrite K CDisk) []) (M_Disk_flush : C8.Met P w K mg base 1 CDisk "flush" (spFlush K CDisk) []) (M_Disk_crashed : C8.Met P w K mg base 6 CDisk "crashed" (spCrashed K CDisk) [])
    (M_Disk_durable : C8.Met P w K mg base 1 CDisk "durable" (spCopyOf K CDisk DM.safe) []) (M_Disk_pending : C8.Met P w K mg base 1 CDisk "pending" (spCopyOf K CDisk fun D => D.writes.map dWr) []) :
    FnG P w K mg base CX0 14 f fd ["_law_script"] (spLaw K) := by
  refine okG F sc_law (fun vs H Q E h => ?_) (fun cdv A outer s H vs Q E hr hgd h => ?_)
  · obtain ⟨_, _, rfl, _⟩ := h
    rfl
  · obtain ⟨a, ns, rfl, ha, hns, k⟩ := h
    have hu := hu_of hr
    have nd := sc_law.nd
    obtain ⟨tc, n1, n2, n3, n4⟩ := id T
    refine ⟨_, (pss_cons (ps_for PassesOwn.never rfl (pi_lst (K := K) (pe_op (op_addA (K := K)) (pe_lst (pa_cons (pe_cl (E := fun _ => E0) C_law_cell_at hr (by decide) pass00 (pa_cons (pv 0) (pa_cons pe_int pa_nil))) pa_nil)) (pe_slice (sl_any (K := K)) (pv 0) (po_some pe_int) (po_some pe_int)))) (pg_name (i := 1) nd rfl (by first | exact Or.inl rfl | exact Or.inr rfl))
      (pss_cons (ps_set (i := 2) nd rfl (by first | exact Or.inl rfl | exact Or.inr rfl) (pe_cl (E := fun _ => E0) C_law_well hr (by decide) pass00 (pa_cons (pv 1) pa_nil)))
      (pss_cons (ps_set (i := 3) nd rfl (by first | exact Or.inl rfl | exact Or.inr rfl) (pe_op (op_addA (K := K)) pe_int (pe_cl (E := fun _ => E0) C_law_draw hr (by decide) pass00 (pa_cons (pv 2) (pa_cons pe_int pa_nil)))))
      (pss_cons (ps_set (i := 4) nd rfl (by first | exact Or.inl rfl | exact Or.inr rfl) (C8.pe_mk N_Disk hr (by decide) rfl (pa_cons (pv 3) pa_nil)))
      (pss_cons (ps_if (pt_cmpR (op_eqA (K := K) hr.units) (pe_cl (E := fun _ => E0) C_law_draw hr (by decide) pass00 (pa_cons (pv 2) (pa_cons pe_int pa_nil))) pe_int (nomark _)) (pss_cons (ps_expr (C8.pe_mt M_Disk_write hr (by decide) (pv 4) (pa_cons pe_int (pa_cons pe_int pa_nil))))
      (pss_one (ps_expr (C8.pe_mt0 M_Disk_flush hr (by decide) (pv 4))))) pss_nil)
      (pss_cons (ps_set (i := 5) nd rfl (by first | exact Or.inl rfl | exact Or.inr rfl) (pe_ix (ix_any (K := K)) (pe_lst (pa_cons (pe_cl (E := fun _ => E0) C_law_draw hr (by decide) pass00 (pa_cons (pv 2) (pa_cons pe_int pa_nil))) (pa_cons (pe_cl (E := fun _ => E0) C_law_draw hr (by decide) pass00 (pa_cons (pv 2) (pa_cons pe_int pa_nil))) pa_nil))) (pe_op op_fdiv (pe_cl (E := fun _ => E0) C_law_draw hr (by decide) pass00 (pa_cons (pv 2) (pa_cons pe_int pa_nil))) pe_int) (fun _ _ => rfl)))
      (pss_cons (ps_for PassesOwn.never rfl (pi_range1 rfl B.range (pa_cons (pv 5) pa_nil)) (pg_name (i := 6) nd rfl (by first | exact Or.inl rfl | exact Or.inr rfl))
      (pss_one (ps_expr (C8.pe_mt M_Disk_write hr (by decide) (pv 4) (pa_cons (pe_cl (E := fun _ => E0) C_law_draw hr (by decide) pass00 (pa_cons (pv 2) (pa_cons (pv 3) pa_nil))) (pa_cons (pv 6) pa_nil))))))
      (pss_cons (ps_set (i := 7) nd rfl (by first | exact Or.inl rfl | exact Or.inr rfl) (pe_callB (call_reprA (K := K) hgd hr.units) rfl B.repr (by decide +kernel) (pa_cons (pe_lst (pa_cons (C8.pe_mt0 M_Disk_pending hr (by decide) (pv 4)) (pa_cons (C8.pe_mt0 M_Disk_durable hr (by decide) (pv 4)) pa_nil))) pa_nil)))
      (pss_cons (ps_set (i := 8) nd rfl (by first | exact Or.inl rfl | exact Or.inr rfl) (pe_cl (E := fun _ => E0) C_law_told hr (by decide) pass00 (pa_cons (pv 4) pa_nil)))
      (pss_cons (ps_if (pt_cmpR op_gt (pv 5) pe_int (nomark _)) (pss_one (ps_if (pt_cmpR (op_neA (K := K) hr.units) (pv 8) (pe_lst (pa_cons pe_bl (pa_cons pe_int pa_nil))) (nomark _)) (pss_one (ps_ret pe_bl)) pss_nil)) (pss_cons (ps_if (PW.pt (pw_or (pt_cmpR (op_neA (K := K) hr.units) (pv 8) (pe_cl (E := fun _ => E0) C_law_all hr (by decide) pass00 (pa_cons (pv 5) pa_nil)) (nomark _)) (pw_or1 (pt_cmpR (op_neA (K := K) hr.units) (pe_callB (call_lenA (K := K)) rfl B.len PySem.boot_len (pa_cons (pv 8) pa_nil)) (pe_op op_shl pe_int (pv 5)) (nomark _))))) (pss_one (ps_ret pe_bl)) pss_nil)
      (pss_cons (ps_if (pt_cmpR (op_neLE hr.units) (C8.pe_mt0 M_Disk_pending hr (by decide) (C8.pe_mt M_Disk_crashed hr (by decide) (pv 4) (pa_cons (pe_ix (ix_any (K := K)) (pv 8) (pe_cl (E := fun _ => E0) C_law_draw hr (by decide) pass00 (pa_cons (pv 2) (pa_cons (pe_callB (call_lenA (K := K)) rfl B.len PySem.boot_len (pa_cons (pv 8) pa_nil)) pa_nil))) (fun _ _ => rfl)) pa_nil))) (pe_lst pa_nil) (nomark _)) (pss_one (ps_ret pe_bl)) pss_nil)
      (pss_cons (ps_expr (pe_bm PySem.F.plainAttrs_list PySem.F.slot_list_append PySem.F.type_list_append mt_append (pe_ix (ix_any (K := K)) (pv 8) pe_int (fun _ _ => rfl)) (pa_cons pe_int pa_nil)))
      (pss_cons (ps_expr (pe_bm0 PySem.F.plainAttrs_list PySem.F.slot_list_clear PySem.F.type_list_clear mt_clear (pv 8)))
      (pss_one (ps_if (pt_cmpR (op_neA (K := K) hr.units) (pe_cl (E := fun _ => E0) C_law_told hr (by decide) pass00 (pa_cons (pv 4) pa_nil)) (pe_cl (E := fun _ => E0) C_law_all hr (by decide) pass00 (pa_cons (pv 5) pa_nil)) (nomark _)) (pss_one (ps_ret pe_bl)) pss_nil)))))))
      (pss_cons (ps_if (pt_cmpR (op_neA (K := K) hr.units) (pe_callB (call_reprA (K := K) hgd hr.units) rfl B.repr (by decide +kernel) (pa_cons (pe_lst (pa_cons (C8.pe_mt0 M_Disk_pending hr (by decide) (pv 4)) (pa_cons (C8.pe_mt0 M_Disk_durable hr (by decide) (pv 4)) pa_nil))) pa_nil)) (pv 7) (nomark _)) (pss_one (ps_ret pe_bl)) pss_nil)
      (pss_one (ps_if (pt_cmpR op_ltA (pv 5) pe_int (nomark _)) (pss_cons (ps_expr (C8.pe_mt M_Disk_write hr (by decide) (pv 4) (pa_cons pe_int (pa_cons pe_str pa_nil))))
      (pss_cons (ps_if (pt_cmpR (op_neA (K := K) hr.units) (pe_cl (E := fun _ => E0) C_law_told hr (by decide) pass00 (pa_cons (pv 4) pa_nil)) (pe_cl (E := fun _ => E0) C_law_all hr (by decide) pass00 (pa_cons (pe_op (op_addA (K := K)) (pv 5) pe_int) pa_nil)) (nomark _)) (pss_one (ps_ret pe_bl)) pss_nil)
      (pss_cons (ps_expr (C8.pe_mt0 M_Disk_flush hr (by decide) (pv 4)))
      (pss_one (ps_if (pt_cmpR (op_neA (K := K) hr.units) (pe_cl (E := fun _ => E0) C_law_told hr (by decide) pass00 (pa_cons (pv 4) pa_nil)) (pe_lst (pa_cons (pe_lst pa_nil) pa_nil)) (nomark _)) (pss_one (ps_ret pe_bl)) pss_nil))))) pss_nil)))))))))))))
      (pss_one (ps_ret pe_bl))), ?_⟩
    repeat walk_at "s"
    refine ⟨a, ns, 0, rfl, ha, by omega, by omega, fun z0 => ?_⟩
    repeat walk_at "s"
    refine r_newL (sz (Nat.le_of_ble_eq_true rfl)) (fun l0 H1 hl0 s1 hl01 => ?_)
    repeat walk_at "s"
    refine r_slL (s1.seq ha) (fun l1 H2 hl1 s2 hl12 => ?_)
    have ec : cutV (ns.map V.int) (some 1) (some 6) = ((ns.map V.int).drop 1).take (6 - 1) := cut_fromTo (n := 1) (m := 6)
    rw [ec, ← List.map_drop, ← List.map_take] at hl12
    refine r_addL (s2 _ _ hl01) hl12 (sz (by simp; omega)) (fun LL H3 hL s3 hL3 => ?_)
    have eL : [V.int z0] ++ ((ns.drop 1).take (6 - 1)).map V.int = (z0 :: (ns.drop 1).take (6 - 1)).map V.int := rfl
    rw [eL] at hL3
    generalize z0 :: (ns.drop 1).take (6 - 1) = cells at hL3
    refine forL (SqL.of hL3) (fun i σ H' => ∃ o1 o2 o3 o4 o5 o6 o7 o8, σ = [some (.ref a), o1, o2, o3, o4, o5, o6, o7, o8] ∧ H' LL = some (.lst (cells.map V.int)))
      ⟨_, _, _, _, _, _, _, _, rfl, hL3⟩ ?_ ?_ ?_
    · rintro i σ H4 hi ⟨o1, o2, o3, o4, o5, o6, o7, o8, rfl, hL4⟩
      exact SqL.of hL4
    · rintro i x σ H4 hi ⟨o1, o2, o3, o4, o5, o6, o7, o8, rfl, hL4⟩
      rw [List.getElem?_map] at hi
      obtain ⟨cell, hcell, rfl⟩ := Option.map_eq_some_iff.mp hi
      clear hL3 hl12 hl01 s1 s2 s3 ha hi hL hl0 hl1
      repeat walk_at "s"
      refine ⟨cell, rfl, fun p H5 hp s5 hp5 => ?_⟩
      repeat walk_at "s"
      refine ⟨p, 0, 6, rfl, hp5, by omega, by decide, by decide, fun u1 H6 hu10 hu11 b6 hp6 => ?_⟩
      repeat walk_at "s"
      obtain ⟨n, en⟩ := Int.eq_ofNat_of_zero_le (show 0 ≤ 1 + u1 by omega)
      rw [en]
      have g1 : 1 ≤ n := by omega
      have g2 : n ≤ 6 := by omega
      have Fp : Fr [p] H4 := fun t ht => by rw [List.mem_singleton.mp ht]; exact hp
      have b46 : But [] H4 H6 := bt_frs (But.of_same s5) b6 Fp
      clear s5 b6 hp5 hu10 hu11 en
      refine r_makeAt (fun d dx H7 hd s7 hd7 => ?_)
      refine ⟨d, dx, n, rfl, hd7, g1, by omega, fun fd H8 hfd b8 hD => ⟨rfl, ?_⟩⟩
      have fd4 : H4 d = none := b46.free hd
      have b48 : But [] H4 H8 := bt_frs (b46.trans (But.of_same s7)) b8 (fun t ht => by rw [List.mem_singleton.mp ht]; exact fd4)
      have Ff : Fr (d :: fd) H4 := fun t ht => (List.mem_cons.mp ht).elim (fun e => e ▸ fd4) fun h => (b46.trans (But.of_same s7)).free (hfd t h)
      have npd : d ≠ p := fun z => hp6.live (z ▸ hd)
      have npf : p ∉ d :: fd := fun z => (List.mem_cons.mp z).elim (fun e => npd e.symm) fun h => (hp6.same s7).live (hfd p h)
      have hp8 : SrcAt H8 p 1 := ((hp6.same s7).but b8 (by simpa using npd.symm)).mono (by omega)
      have hdm : d ∈ d :: fd := List.mem_cons_self
      generalize d :: fd = fd at hD Ff npf hdm
      clear s7 b8 hd7 hp6 b46 hfd hd dx npd
      have djp : Dj fd [p] := fun t ht hm => npf (by rw [← List.mem_singleton.mp hm]; exact ht)
      have Fa : Fr (p :: fd) H4 := fun t ht => (List.mem_cons.mp ht).elim (fun e => e ▸ hp) (Ff t)
      walk_at "to"
      with_reducible refine r_seqCut (fun σ H' => ∃ D, σ = [some (.ref a), some (.int cell), some (.ref p), some (.int n), some (.ref d), o5, o6, o7, o8] ∧ But (p :: fd) H8 H' ∧ SrcAt H' p 2 ∧ DiskAt K CDisk H' d fd n 2 D ∧ WOk D ∧ D.writes = []) ?_ ?_
      · rintro σ H9 ⟨D, rfl, b89, hp9, hD9, wo, ew⟩
        have b49 : But [] H4 H9 := bt_frs b48 b89 Fa
        clear b89 b48 hD hp8
        repeat walk_at "s"
        refine ⟨p, _, 6, rfl, hp9, by omega, by decide, by decide, fun u2 H10 hu20 hu21 b10 hp10 => ?_⟩
        repeat walk_at "s"
        refine ⟨p, _, 12, rfl, hp10, by omega, by decide, by decide, fun u3 H11 hu30 hu31 b11 hp11 => ?_⟩
        repeat walk_at "s"
        refine r_newL (sz (Nat.le_of_ble_eq_true rfl)) (fun lq H12 hlq s12 hlq2 => ?_)
        repeat walk_at "s"
        refine ⟨p, _, 4, rfl, hp11.same s12, by omega, by decide, by decide, fun u4 H13 hu40 hu41 b13 hp13 => ?_⟩
        have nlq : lq ≠ p := fun z => hp11.live (z ▸ hlq)
        have hlq3 := b13.at hlq2 (by simpa using nlq)
        repeat walk_at "s"
        obtain ⟨mm, hmm, hmm2⟩ : ∃ mm : Nat, atI [V.int u2, V.int u3] (u4 / 3) = some (.int mm) ∧ mm ≤ 11 := by
          have h : u4 / 3 = 0 ∨ u4 / 3 = 1 := by omega
          rcases h with h | h
          · rw [h]
            refine ⟨u2.toNat, ?_, by omega⟩
            rw [Int.toNat_of_nonneg hu20]; rfl
          · rw [h]
            refine ⟨u3.toNat, ?_, by omega⟩
            rw [Int.toNat_of_nonneg hu30]; rfl
        refine r_ixL (.of hlq3) hmm ?_
        have b913 : But [p] H9 H13 := ((b10.trans b11).trans (But.of_same s12)).trans b13
        have b413 : But [] H4 H13 := bt_frs b49 b913 Fp
        have hD13 := hD9.but b913 djp
        have hp13' : SrcAt H13 p 5 := hp13.mono (by omega)
        clear b10 b11 s12 b13 b913 b49 hp9 hp10 hp11 hp13 hlq hlq2 hlq3 nlq hD9 hmm
        repeat walk_at "s"
        refine forR ⟨by omega, by omega⟩ (fun i σ H' => ∃ (D : DM) (o6 : Option V), σ = [some (.ref a), some (.int cell), some (.ref p), some (.int n), some (.ref d), some (.int mm), o6, o7, o8] ∧ But (p :: fd) H13 H' ∧ SrcAt H' p (5 + i) ∧ DiskAt K CDisk H' d fd n (2 + i) D ∧ WOk D ∧ D.writes.length = i) ⟨D, _, rfl, But.refl, hp13', hD13, wo, by rw [ew]; rfl⟩ ?_ ?_
        · rintro i σ H14 hi ⟨D, o6, rfl, b14, hp14, hD14, wo, ew⟩
          obtain ⟨_, dxd, q1, q2, q3, q4, x1, x2, x3, x4, efd, hnd, hd0, _⟩ := id hD14
          repeat walk_at "s"
          refine r_methAt hd0 (by with_unfolding_all rfl) ?_
          repeat walk_at "s"
          refine ⟨p, _, n, rfl, hp14, by omega, by omega, by omega, fun u H15 hu0 hu1 b15 hp15 => ?_⟩
          repeat walk_at "s"
          refine ⟨d, fd, n, 2 + i, D, u, .int i, [], .int i, rfl, hD14.but b15 djp, by omega, by omega, by omega, .int _, rfl, fun H16 b16 hD16 => ?_⟩
          have hp16 := hp15.but b16 npf
          have s1 : ∀ t ∈ [p], t ∈ p :: fd := fun t ht => by rw [List.mem_singleton.mp ht]; exact List.mem_cons_self
          have s2 : ∀ t ∈ fd, t ∈ p :: fd := fun t ht => List.mem_cons_of_mem _ ht
          refine ⟨_, _, rfl, (b14.trans (b15.sub s1)).trans (b16.sub s2), hp16.mono (by omega), hD16, wo.write ((okInt (m := 68) (i := (i : Int)) (by omega) (by decide)).mono (by decide) (by decide)), ?_⟩
          show (D.writes ++ [_]).length = i + 1
          rw [List.length_append, ew]; rfl
        · rintro σ H14 ⟨D, o6, rfl, b14, hp14, hD14, wo, ew⟩
          rw [Int.toNat_natCast] at hp14 hD14 ew
          have b414 : But [] H4 H14 := bt_frs b413 b14 Fa
          clear b14 b413 hD13 hp13'
          have ok := hD14.ok
          have hseen := okSeen ok wo (by omega)
          obtain ⟨_, dxd, q1, q2, q3, q4, x1, x2, x3, x4, efd, hnd, hd0, _⟩ := id hD14
          repeat walk_at "s"
          refine r_methAt hd0 (by with_unfolding_all rfl) ?_
          refine ⟨d, fd, _, _, _, rfl, hD14, fun la xa H15 hla s15 hla5 va => ?_⟩
          repeat walk_at "s"
          refine r_methAt (s15 _ _ hd0) (by with_unfolding_all rfl) ?_
          refine ⟨d, fd, _, _, _, rfl, hD14.same s15, fun lb xb H16 hlb s16 hlb6 vb => ?_⟩
          repeat walk_at "s"
          refine r_newL (sz (Nat.le_of_ble_eq_true rfl)) (fun lf H17 hlf s17 hlf7 => ?_)
          repeat walk_at "s"
          have ds : Dn K [] H17 (.ref lf) (seenD D) := .lst hlf7 (by simp) (.cons (.lst (s17 _ _ (s16 _ _ hla5)) (by simp) ((va.same s16).same s17)) (.one (.lst (s17 _ _ hlb6) (by simp) (vb.same s17))))
          refine r_reprOk ds hseen (by decide) (by decide) ?_
          have s1417 : Same H14 H17 := fun b o e => s17 b o (s16 b o (s15 b o e))
          have hD17 := hD14.same s1417
          have hp17 := hp14.same s1417
          have b417 : But [] H4 H17 := b414.trans (But.of_same s1417)
          clear s15 s16 s17 s1417 hla5 va hlb6 vb hlf7 ds hD14 hp14 b414 hla hlb hlf
          repeat walk_at "s"
          have hLL7 : H17 LL = some (.lst (cells.map V.int)) := b417.same _ _ hL4
          have nLp : LL ∉ [p] := fun z => live_of hL4 (by rw [List.mem_singleton.mp z]; exact hp)
          have hlive : ∀ {H' : Hp}, H' LL = some (.lst (cells.map V.int)) → SrcAt H' p (5 + mm) → DiskAt K CDisk H' d fd n (2 + mm) D → Live (LL :: p :: fd) H' := fun h0 h1 h2 s hs => by
            rcases List.mem_cons.mp hs with rfl | hs
            · exact live_of h0
            · exact (List.mem_cons.mp hs).elim (fun e => e ▸ h1.live) (h2.live s)
          refine ⟨d, fd, n, _, D, LL :: p :: fd, rfl, hD17, hlive hLL7 hp17 hD17, fun l ys H18 hl s18 hl8 hy => ?_⟩
          rw [ew] at hy
          have nlS : l ∉ LL :: p :: fd := (hlive hLL7 hp17 hD17).ne hl
          have hD18 := hD17.same s18
          have hp18 := hp17.same s18
          have hLL8 := s18 _ _ hLL7
          clear s18 hD17 hp17 b417 hLL7
          walk_at "to"
          with_reducible refine r_seqCut (fun σ H' => ∃ o8, σ = [some (.ref a), some (.int cell), some (.ref p), some (.int n), some (.ref d), some (.int mm), o6, some (.str (seenD D).shown), o8] ∧ H' LL = some (.lst (cells.map V.int)) ∧ SrcAt H' p (8 + mm) ∧ DiskAt K CDisk H' d fd n (2 + mm) D) ?_ ?_
          · rintro σ H19 ⟨o8, rfl, hLL9, hp19, hD19⟩
            clear hD18 hp18 hLL8 hl8 hy
            repeat walk_at "s"
            obtain ⟨_, dxd, q1, q2, q3, q4, x1, x2, x3, x4, efd, hnd, hd0, _⟩ := id hD19
            refine r_methAt hd0 (by with_unfolding_all rfl) ?_
            refine ⟨d, fd, _, _, _, rfl, hD19, fun la xa H20 hla s20 hla0 va => ?_⟩
            repeat walk_at "s"
            refine r_methAt (s20 _ _ hd0) (by with_unfolding_all rfl) ?_
            refine ⟨d, fd, _, _, _, rfl, hD19.same s20, fun lb xb H21 hlb s21 hlb1 vb => ?_⟩
            repeat walk_at "s"
            refine r_newL (sz (Nat.le_of_ble_eq_true rfl)) (fun lf H22 hlf s22 hlf2 => ?_)
            repeat walk_at "s"
            have ds : Dn K [] H22 (.ref lf) (seenD D) := .lst hlf2 (by simp) (.cons (.lst (s22 _ _ (s21 _ _ hla0)) (by simp) ((va.same s21).same s22)) (.one (.lst (s22 _ _ hlb1) (by simp) (vb.same s22))))
            refine r_reprOk ds hseen (by decide) (by decide) ?_
            repeat walk_at "s"
            refine r_iteF (by simp) ?_
            have s1922 : Same H19 H22 := fun b o e => s22 b o (s21 b o (s20 b o e))
            have hD22 := hD19.same s1922
            have hp22 := hp19.same s1922
            have hLL22 := s1922 _ _ hLL9
            have hd2 := s1922 _ _ hd0
            have nLf : LL ∉ fd := fun z => live_of hL4 (Ff _ z)
            clear s20 s21 s22 s1922 hla0 va hlb1 vb hlf2 ds hD19 hp19 hLL9 hd0 hla hlb hlf
            repeat walk_at "s"
            refine r_ite (fun hm => ?_) (fun hm => ?_)
            · repeat walk_at "s"
              refine r_methAt hd2 (by with_unfolding_all rfl) ?_
              repeat walk_at "s"
              refine ⟨d, fd, n, _, D, 0, .str "more", [], .str "more", rfl, hD22, by omega, by omega, by omega, .str _, by decide +kernel, fun H23 b23 hD23 => ?_⟩
              have hLL23 := b23.at hLL22 nLf
              have hp23 := hp22.but b23 npf
              have lv23 : Live (LL :: p :: fd) H23 := fun s hs => by
                rcases List.mem_cons.mp hs with rfl | hs
                · exact live_of hLL23
                · exact (List.mem_cons.mp hs).elim (fun e => e ▸ hp23.live) (hD23.live s)
              have ew1 : (D.write 0 (.str "more")).writes.length = mm + 1 := by
                show (D.writes ++ [_]).length = _
                rw [List.length_append, ew]; rfl
              clear b23 hD22 hp22 hLL22 hd2
              repeat walk_at "s"
              refine ⟨d, fd, n, _, _, LL :: p :: fd, rfl, hD23, lv23, fun l2 ys2 H24 hl2 s24 hl24 hy2 => ?_⟩
              rw [ew1] at hy2
              replace hy2 := hy2.elim (fun h => h.2) (fun h => absurd h.1 (by omega))
              repeat walk_at "s"
              refine ⟨mm + 1, LL :: p :: fd, rfl, by omega, lv23.but (But.of_same (S := []) s24), fun la ya H25 hla s25 hla5 hya => ?_⟩
              repeat walk_at "s"
              refine r_neSh (Dn.lst (S := []) (s25 _ _ hl24) (by simp) ((hy2.sub (T := []) (by simp)).same s25)).dp (Dn.lst (S := []) hla5 (by simp) (hya.sub (T := []) (by simp))).dp (sh_sorted (mm + 1)) (by decide) ?_
              repeat walk_at "s"
              refine r_iteF rfl ?_
              have s2325 : Same H23 H25 := fun b o e => s25 b o (s24 b o e)
              have hD25 := hD23.same s2325
              have hLL25 := s2325 _ _ hLL23
              obtain ⟨_, dxd, q1, q2, q3, q4, x1, x2, x3, x4, efd, hnd, hd5, _⟩ := id hD25
              clear s24 s25 s2325 hl24 hy2 hla5 hya hD23 hLL23 hp23 lv23
              repeat walk_at "s"
              refine r_methAt hd5 (by with_unfolding_all rfl) ?_
              repeat walk_at "s"
              refine ⟨d, fd, n, _, _, rfl, hD25, by omega, fun H26 b26 hD26 => ?_⟩
              have hLL26 := b26.at hLL25 nLf
              clear b26 hD25 hLL25 hd5
              repeat walk_at "s"
              refine ⟨d, fd, n, _, _, [LL], rfl, hD26, Live.cons hLL26 Live.nil, fun l2 ys2 H27 hl2 s27 hl27 hy2 => ?_⟩
              replace hy2 := hy2.elim (fun h => h.2) (fun h => absurd h.1 (by show ¬ 10 < 0; omega))
              repeat walk_at "s"
              refine r_newL (sz (Nat.le_of_ble_eq_true rfl)) (fun l3 H28 hl3 s28 hl38 => ?_)
              repeat walk_at "s"
              refine r_newL (sz (Nat.le_of_ble_eq_true rfl)) (fun l4 H29 hl4 s29 hl49 => ?_)
              repeat walk_at "s"
              have e0 : sortedD ((subs 0).map rowD) = [.list []] := by
                unfold sortedD
                exact List.mergeSort_singleton _
              have hy3 : DnAll K [LL] H27 ys2 (sortedD ((subs 0).map rowD)) := hy2
              rw [e0] at hy3
              refine r_neSh (d := .list [.list []]) (Dn.lst (S := []) (s29 _ _ (s28 _ _ hl27)) (by simp) (((hy3.sub (T := []) (by simp)).same s28).same s29)).dp (Dn.lst (S := []) hl49 (by simp) (.one (.lst (s29 _ _ hl38) (by simp) .nil))).dp (k := 2) ⟨rfl, by decide⟩ (by decide) ?_
              repeat walk_at "s"
              refine r_iteF rfl ?_
              exact ⟨_, _, _, _, _, _, _, _, rfl, s29 _ _ (s28 _ _ (s27 _ _ hLL26))⟩
            · exact ⟨_, _, _, _, _, _, _, _, rfl, hLL22⟩
          · intro go
            repeat walk_at "s"
            refine r_ite (fun hm => ?_) (fun hm => ?_)
            · repeat walk_at "s"
              rcases hy with ⟨h, _⟩ | ⟨_, rfl⟩
              · omega
              refine r_newL (sz (Nat.le_of_ble_eq_true rfl)) (fun lt H19 hlt s19 hlt9 => ?_)
              repeat walk_at "s"
              refine r_neSh (Dn.lst (S := []) (s19 _ _ hl8) (by simp) (.cons (.bl true) (.one (.int 10)))).dp (Dn.lst (S := []) hlt9 (by simp) (.cons (.bl true) (.one (.int 10)))).dp (k := 1) ⟨rfl, by decide⟩ (by decide) ?_
              repeat walk_at "s"
              refine r_iteF rfl ?_
              walk_at "to"
              exact go _ _ ⟨_, rfl, s19 _ _ hLL8, (hp18.same s19).mono (by omega), hD18.same s19⟩
            · have hm' : mm ≤ 10 := by omega
              replace hy := hy.elim (fun h => h.2) (fun h => absurd h.1 (by omega))
              repeat walk_at "s"
              refine ⟨mm, LL :: p :: fd, rfl, by omega, hlive hLL8 hp18 hD18, fun la ya H19 hla s19 hla9 hya => ?_⟩
              repeat walk_at "s"
              refine r_neSh (Dn.lst (S := []) (s19 _ _ hl8) (by simp) ((hy.sub (T := []) (by simp)).same s19)).dp (Dn.lst (S := []) hla9 (by simp) (hya.sub (T := []) (by simp))).dp (sh_sorted mm) (by decide) ?_
              repeat walk_at "s"
              refine r_iteF rfl ?_
              have hl9 := s19 _ _ hl8
              have hy9 := hy.same s19
              have hD19 := hD18.same s19
              have hp19 := hp18.same s19
              have hLL9 := s19 _ _ hLL8
              clear s19 hla9 hya hl8 hy hD18 hp18 hLL8 hla
              have hyl : ys.length = 2 ^ mm := by rw [hy9.length, sorted_len, List.length_map, subs_len]
              have hpos : 0 < 2 ^ mm := Nat.pow_pos (by decide)
              have hp1024 : 2 ^ mm ≤ 1024 := Nat.le_trans (Nat.pow_le_pow_right (by decide) hm') (by decide)
              repeat walk_at "s"
              rw [hyl]
              refine r_iteF (by rw [decide_eq_true (by rw [Int.toNat_natCast]; push_cast; omega)]; rfl) ?_
              obtain ⟨_, dxd, q1, q2, q3, q4, x1, x2, x3, x4, efd, hnd, hd0, _⟩ := id hD19
              repeat walk_at "s"
              refine r_methAt hd0 (by with_unfolding_all rfl) ?_
              repeat walk_at "s"
              refine ⟨p, _, ys.length, rfl, hp19, by omega, by omega, by omega, fun u H20 hu0 hu1 b20 hp20 => ?_⟩
              obtain ⟨uu, rfl⟩ := Int.eq_ofNat_of_zero_le hu0
              have tp : ∀ t ∈ [p], t ∈ LL :: p :: fd := fun t ht => by rw [List.mem_singleton.mp ht]; exact List.mem_cons_of_mem _ List.mem_cons_self
              have nlp : l ∉ [p] := fun z => nlS (tp _ z)
              have hl20 := b20.at hl9 nlp
              have hy20 := hy9.but b20 tp
              have huu : uu < ys.length := by omega
              refine r_ixL (.of hl20) (atI_nat (List.getElem?_eq_getElem huu)) ?_
              obtain ⟨dr, hdr, hrow⟩ := hy20.get (List.getElem?_eq_getElem huu)
              have hmr : dr ∈ sortedD ((subs mm).map rowD) := List.mem_of_getElem? hdr
              obtain ⟨rw_, hrw, rfl⟩ := List.mem_map.mp (sorted_mem.mp hmr)
              obtain ⟨is, rfl, up, lt⟩ := subs_asc mm rw_ hrw
              obtain ⟨ax, ws, eax, hax, nax, hws⟩ := hrow.lst_inv
              have ews := hws.ints_of
              rw [List.map_map] at ews
              subst ews
              rw [eax]
              have hD20 := hD19.but b20 djp
              refine ⟨d, ax, fd, n, _, D, is, rfl, hD20, hax, ⟨up, by rw [ew]; exact lt⟩, by omega, fun e ls H21 fe s21 hE => ?_⟩
              obtain ⟨_, dxe, r1, r2, r3, r4, y1, y2, y3, y4, efe, hne, he0, _⟩ := id hE
              refine r_methAt he0 (by with_unfolding_all rfl) ?_
              refine ⟨e, _, _, _, _, rfl, hE, fun lp xp H22 hlp s22 hlp2 vp => ?_⟩
              have hxp : xp = [] := by cases vp; rfl
              subst hxp
              repeat walk_at "s"
              refine r_newL (sz (Nat.le_of_ble_eq_true rfl)) (fun lz H23 hlz s23 hlz3 => ?_)
              repeat walk_at "s"
              refine r_neLE (s23 _ _ hlp2) hlz3 ?_
              repeat walk_at "s"
              refine r_iteF rfl ?_
              have s2023 : Same H20 H23 := fun b o e => s23 b o (s22 b o (s21 b o e))
              have hl23 := s2023 _ _ hl20
              have hy23 := hy20.same s2023
              have hD23 := hD20.same s2023
              have hp23 := hp20.same s2023
              have hLL23 := s2023 _ _ (b20.at hLL9 nLp)
              clear s21 s22 s23 s2023 b20 hl9 hy9 hD19 hp19 hLL9 hl20 hy20 hD20 hp20 hE he0 hlp2 vp hlz3 hrow hax hws eax hdr hmr hlp hlz efe hne fe
              have h0 : 0 < ys.length := by omega
              obtain ⟨d0, hd0', hrow⟩ := hy23.get (List.getElem?_eq_getElem h0)
              have hmr : d0 ∈ sortedD ((subs mm).map rowD) := List.mem_of_getElem? hd0'
              obtain ⟨rw0, hrw0, rfl⟩ := List.mem_map.mp (sorted_mem.mp hmr)
              obtain ⟨ax, ws, eax, hax, nax, hws⟩ := hrow.lst_inv
              have hwl : ws.length ≤ 11 := by
                have := subs_wid mm rw0 hrw0
                rw [hws.length, List.length_map]
                omega
              repeat walk_at "s"
              refine r_ixL (.of hl23) (atI_nat (j := 0) (List.getElem?_eq_getElem h0)) ?_
              rw [eax]
              repeat walk_at "s"
              refine r_app hax (szl (by omega)) (fun H24 b24 hax4 => ?_)
              have nlax : l ≠ ax := fun z => by
                subst z
                rw [hl23] at hax
                cases hax
                have e := hws.ints_of
                rw [List.getElem_of_eq e] at eax
                simp at eax
              have hl24 := b24.at hl23 (by simpa using nlax)
              repeat walk_at "s"
              refine r_clear hl24 (fun H25 b25 hl25 => ?_)
              have hD25 := (hD23.but b24 (fun t ht z => nax (by rw [← List.mem_singleton.mp z]; exact List.mem_cons_of_mem _ (List.mem_cons_of_mem _ ht)))).but b25 (fun t ht z => nlS (by rw [← List.mem_singleton.mp z]; exact List.mem_cons_of_mem _ (List.mem_cons_of_mem _ ht)))
              have hp25 := (hp23.but b24 (fun z => nax (by rw [← List.mem_singleton.mp z]; exact List.mem_cons_of_mem _ List.mem_cons_self))).but b25 (fun z => nlS (by rw [← List.mem_singleton.mp z]; exact List.mem_cons_of_mem _ List.mem_cons_self))
              have hLL25 : H25 LL = some (.lst (cells.map V.int)) := b25.at (b24.at hLL23 (fun z => nax (by rw [← List.mem_singleton.mp z]; exact List.mem_cons_self))) (fun z => nlS (by rw [← List.mem_singleton.mp z]; exact List.mem_cons_self))
              clear b24 b25 hl23 hy23 hD23 hp23 hLL23 hrow hmr hd0' hax hws eax hl24 hax4
              repeat walk_at "s"
              have hp25' : SrcAt H25 p (6 + mm) := hp25.mono (by omega)
              have lv25 : Live (LL :: p :: fd) H25 := fun s hs => by
                rcases List.mem_cons.mp hs with rfl | hs
                · exact live_of hLL25
                · exact (List.mem_cons.mp hs).elim (fun e => e ▸ hp25.live) (hD25.live s)
              refine ⟨d, fd, n, _, D, LL :: p :: fd, rfl, hD25, lv25, fun l2 ys2 H26 hl2 s26 hl26 hy2 => ?_⟩
              replace hy2 := hy2.elim (fun h => h.2) (fun h => absurd h.1 (by omega))
              rw [ew] at hy2
              repeat walk_at "s"
              refine ⟨mm, LL :: p :: fd, rfl, by omega, lv25.but (But.of_same (S := []) s26), fun la ya H27 hla s27 hla7 hya => ?_⟩
              repeat walk_at "s"
              refine r_neSh (Dn.lst (S := []) (s27 _ _ hl26) (by simp) ((hy2.sub (T := []) (by simp)).same s27)).dp (Dn.lst (S := []) hla7 (by simp) (hya.sub (T := []) (by simp))).dp (sh_sorted mm) (by decide) ?_
              repeat walk_at "s"
              refine r_iteF rfl ?_
              walk_at "to"
              have s2527 : Same H25 H27 := fun b o e => s27 b o (s26 b o e)
              exact go _ _ ⟨_, rfl, s2527 _ _ hLL25, (hp25'.same s2527).mono (by omega), hD25.same s2527⟩
      · intro go
        repeat walk_at "s"
        refine ⟨p, _, 2, rfl, hp8, by omega, by decide, by decide, fun u2 H9 hu20 hu21 b9 hp9 => ?_⟩
        have hD9 := hD.but b9 djp
        have s1 : ∀ t ∈ [p], t ∈ p :: fd := fun t ht => by rw [List.mem_singleton.mp ht]; exact List.mem_cons_self
        have s2 : ∀ t ∈ fd, t ∈ p :: fd := fun t ht => List.mem_cons_of_mem _ ht
        obtain ⟨_, dxd, q1, q2, q3, q4, x1, x2, x3, x4, efd, hnd, hd0, _⟩ := id hD9
        repeat walk_at "s"
        refine r_ite (fun _ => ?_) (fun _ => ?_)
        · repeat walk_at "s"
          refine r_methAt hd0 (by with_unfolding_all rfl) ?_
          repeat walk_at "s"
          refine ⟨d, fd, n, _, _, 0, .int 5, [], .int 5, rfl, hD9, by omega, by omega, by omega, .int _, rfl, fun H10 b10 hD10 => ?_⟩
          obtain ⟨_, dxd, q1, q2, q3, q4, x1, x2, x3, x4, efd, hnd, hd1, _⟩ := id hD10
          repeat walk_at "s"
          refine r_methAt hd1 (by with_unfolding_all rfl) ?_
          repeat walk_at "s"
          refine ⟨d, fd, n, _, _, rfl, hD10, by omega, fun H11 b11 hD11 => ?_⟩
          walk_at "to"
          refine go _ _ ⟨_, rfl, ((b9.sub s1).trans (b10.sub s2)).trans (b11.sub s2), ((hp9.but b10 npf).but b11 npf).mono (by omega), hD11, ((WOk.new n).write ⟨rfl, rfl, by decide, by decide +kernel⟩).flush, rfl⟩
        · walk_at "to"
          refine go _ _ ⟨_, rfl, b9.sub s1, hp9.mono (by omega), hD9.mono (by omega), WOk.new n, rfl⟩
    · rintro σ H4 ⟨o1, o2, o3, o4, o5, o6, o7, o8, rfl, hL4⟩
      repeat walk_at "s"
      exact k _
end
end L03

set_option Elab.async false
set_option linter.all false
set_option maxRecDepth 100000
set_option maxHeartbeats 4000000
open PySem L2 PyProof.Rows J
namespace L03
/-- is an error of the class at D what «except S» names? -/
theorem exm_cl {K : PySem.W.Frag} {D S : Addr} {b : Bool} (h1 : PySem.W.subIn K (.ref S) (.type "BaseException") = some true) (h2 : PySem.W.isClsIn K S = true) (h3 : PySem.W.typeIn K (.ref S) = some (.type "type")) (h4 : PySem.W.subIn K (.ref D) (.ref S) = some b) :
    PySem.W.exmOne K (.ref D) (.ref S) = some b := by
  have e1 : (PySem.W.subIn K (.ref S) (.type "BaseException") == some true) = true := by rw [h1] <;> rfl
  have e2 : ((PySem.W.clsIn K S).isSome && PySem.W.typeIn K (.ref S) == some (.type "type")) = true := by
    have h2' : (PySem.W.clsIn K S).isSome = true := h2
    rw [h2', h3] <;> rfl
  show (if (PySem.W.subIn K (.ref S) (.type "BaseException") == some true) = true then (if ((PySem.W.clsIn K S).isSome && PySem.W.typeIn K (.ref S) == some (.type "type")) = true then PySem.W.subIn K (.ref D) (.ref S) else none) else none) = some b
  rw [if_pos e1, if_pos e2]
  exact h4
theorem exm_self {K : PySem.W.Frag} {S : Addr} (h1 : PySem.W.subIn K (.ref S) (.type "BaseException") = some true) (h2 : PySem.W.isClsIn K S = true) (h3 : PySem.W.typeIn K (.ref S) = some (.type "type")) (h4 : PySem.W.subIn K (.ref S) (.ref S) = some true) :
    PySem.W.exmOne K (.ref S) (.ref S) = some true := exm_cl h1 h2 h3 h4
theorem kit_clF {K : PySem.W.Frag} {D C : Addr} (hi : PySem.W.isClsIn K C = true) (ht : PySem.W.typeIn K (.ref C) = some (.type "type")) (hs : PySem.W.subIn K (.ref D) (.ref D) = some true) (h : PySem.W.subIn K (.ref D) (.ref C) = some false) : PySem.W.kitOne K (.ref D) (.ref C) = some false :=
  kit_cl hi ht h (.inr fun e => by
    subst e
    rw [hs] at h
    cases h)
end L03
open PySem L2 PyProof.Rows J
set_option maxHeartbeats 4000000
namespace L03
theorem all_mk {P : Program} {w : World} {K : PySem.W.Frag} {h : Heap} {mg : Str → Option Value} {fa : Addr} {CDisk f0 f1 f2 CLogError f3 CTooMany f4 f5 f6 f7 f8 f9 f10 f11 f12 f13 f14 f15 f16 f17 f18 f19 f20 f21 CBadBlock CBadChoice CBadCount CBadLayout CBadPath CBadRule CBadStep CBadValue CHasEntry CNoEntry CNoRoom CNoSpace CNotEmpty : Addr} {fd0 fd1 fd2 fd3 fd4 fd5 fd6 fd7 fd8 fd9 fd10 fd11 fd12 fd13 fd14 fd15 fd16 fd17 fd18 fd19 fd20 fd21 : FuncData} (X : K.In h) (G : h.Ns mainGlobals mg) (hfa : mg "law" = some (.ref fa))
    (F0 : FunD K "is_integer" "is_integer" (defArgs s_is_integer) (defBody s_is_integer) (defScope s_is_integer) [] [] f0 fd0)
    (F1 : FunD K "is_between" "is_between" (defArgs s_is_between) (defBody s_is_between) (defScope s_is_between) [] [] f1 fd1)
    (F2 : FunD K "is_value" "is_value" (defArgs s_is_value) (defBody s_is_value) (defScope s_is_value) [.int 0] [] f2 fd2)
    (F3 : FunD K "__init__" "LogError.__init__" (defArgs s_LogError_init) (defBody s_LogError_init) (defScope s_LogError_init) [.str "invalid"] [] f3 fd3)
    (F4 : FunD K "__init__" "TooMany.__init__" (defArgs s_TooMany_init) (defBody s_TooMany_init) (defScope s_TooMany_init) [] [] f4 fd4)
    (F5 : FunD K "__init__" "Disk.__init__" (defArgs s_Disk_init) (defBody s_Disk_init) (defScope s_Disk_init) [] [] f5 fd5)
    (F6 : FunD K "check_block" "Disk.check_block" (defArgs s_Disk_check_block) (defBody s_Disk_check_block) (defScope s_Disk_check_block) [] [] f6 fd6)
    (F7 : FunD K "write" "Disk.write" (defArgs s_Disk_write) (defBody s_Disk_write) (defScope s_Disk_write) [] [] f7 fd7)
    (F8 : FunD K "flush" "Disk.flush" (defArgs s_Disk_flush) (defBody s_Disk_flush) (defScope s_Disk_flush) [] [] f8 fd8)
    (F9 : FunD K "durable" "Disk.durable" (defArgs s_Disk_durable) (defBody s_Disk_durable) (defScope s_Disk_durable) [] [] f9 fd9)
    (F10 : FunD K "pending" "Disk.pending" (defArgs s_Disk_pending) (defBody s_Disk_pending) (defScope s_Disk_pending) [] [] f10 fd10)
    (F11 : FunD K "check_choice" "check_choice" (defArgs s_check_choice) (defBody s_check_choice) (defScope s_check_choice) [] [] f11 fd11)
    (F12 : FunD K "beginning_with" "beginning_with" (defArgs s_beginning_with) (defBody s_beginning_with) (defScope s_beginning_with) [] [] f12 fd12)
    (F13 : FunD K "crashed" "Disk.crashed" (defArgs s_Disk_crashed) (defBody s_Disk_crashed) (defScope s_Disk_crashed) [] [] f13 fd13)
    (F14 : FunD K "crash_choices" "crash_choices" (defArgs s_crash_choices) (defBody s_crash_choices) (defScope s_crash_choices) [] [] f14 fd14)
    (F15 : FunD K "_law_cell_at" "_law_cell_at" (defArgs s_law_cell_at) (defBody s_law_cell_at) (defScope s_law_cell_at) [] [] f15 fd15)
    (F16 : FunD K "_law_well" "_law_well" (defArgs s_law_well) (defBody s_law_well) (defScope s_law_well) [] [] f16 fd16)
    (F17 : FunD K "_law_draw" "_law_draw" (defArgs s_law_draw) (defBody s_law_draw) (defScope s_law_draw) [] [] f17 fd17)
    (F18 : FunD K "_law_all" "_law_all" (defArgs s_law_all) (defBody s_law_all) (defScope s_law_all) [] [] f18 fd18)
    (F19 : FunD K "_law_classes_of" "_law_classes_of" (defArgs s_law_classes_of) (defBody s_law_classes_of) (defScope s_law_classes_of) [] [] f19 fd19)
    (F20 : FunD K "_law_told" "_law_told" (defArgs s_law_told) (defBody s_law_told) (defScope s_law_told) [] [] f20 fd20)
    (F21 : FunD K "law" "law" (defArgs s_law) (defBody s_law) (defScope s_law) [] [] f21 fd21)
    (aC_Disk : PySem.W.nsIn K mainGlobals "Disk" = some (some (.ref CDisk)))
    (pg_Disk : PySem.W.plainGet K CDisk Str.empty = true)
    (hd_Disk : PySem.W.hasDictIn K CDisk = true)
    (po_Disk : PySem.W.plainOver K CDisk = true)
    (sa_Disk : PySem.W.findIn K (.ref CDisk) "__setattr__" = some (some (.builtin "object.__setattr__")))
    (mk_Disk : PySem.W.makesIn K CDisk = true)
    (kc_Disk : PySem.W.keepIn K (.ref CDisk) = true)
    (no_Disk_first : PySem.W.findIn K (.ref CDisk) "first" = some none)
    (no_Disk_safe : PySem.W.findIn K (.ref CDisk) "safe" = some none)
    (no_Disk_writes : PySem.W.findIn K (.ref CDisk) "writes" = some none)
    (no_Disk_deeds : PySem.W.findIn K (.ref CDisk) "deeds" = some none)
    (a0 : PySem.W.nsIn K mainGlobals "is_integer" = some (some (.ref f0)))
    (a1 : PySem.W.nsIn K mainGlobals "is_between" = some (some (.ref f1)))
    (a2 : PySem.W.nsIn K mainGlobals "is_value" = some (some (.ref f2)))
    (a3 : PySem.W.findIn K (.ref CLogError) "__init__" = some (some (.ref f3)))
    (i3 : PySem.W.isFn K (.ref f3) = true)
    (a4 : PySem.W.findIn K (.ref CTooMany) "__init__" = some (some (.ref f4)))
    (i4 : PySem.W.isFn K (.ref f4) = true)
    (a5 : PySem.W.findIn K (.ref CDisk) "__init__" = some (some (.ref f5)))
    (i5 : PySem.W.isFn K (.ref f5) = true)
    (a6 : PySem.W.findIn K (.ref CDisk) "check_block" = some (some (.ref f6)))
    (i6 : PySem.W.isFn K (.ref f6) = true)
    (a7 : PySem.W.findIn K (.ref CDisk) "write" = some (some (.ref f7)))
    (i7 : PySem.W.isFn K (.ref f7) = true)
    (a8 : PySem.W.findIn K (.ref CDisk) "flush" = some (some (.ref f8)))
    (i8 : PySem.W.isFn K (.ref f8) = true)
    (a9 : PySem.W.findIn K (.ref CDisk) "durable" = some (some (.ref f9)))
    (i9 : PySem.W.isFn K (.ref f9) = true)
    (a10 : PySem.W.findIn K (.ref CDisk) "pending" = some (some (.ref f10)))
    (i10 : PySem.W.isFn K (.ref f10) = true)
    (a11 : PySem.W.nsIn K mainGlobals "check_choice" = some (some (.ref f11)))
    (a12 : PySem.W.nsIn K mainGlobals "beginning_with" = some (some (.ref f12)))
    (a13 : PySem.W.findIn K (.ref CDisk) "crashed" = some (some (.ref f13)))
    (i13 : PySem.W.isFn K (.ref f13) = true)
    (a14 : PySem.W.nsIn K mainGlobals "crash_choices" = some (some (.ref f14)))
    (a15 : PySem.W.nsIn K mainGlobals "_law_cell_at" = some (some (.ref f15)))
    (a16 : PySem.W.nsIn K mainGlobals "_law_well" = some (some (.ref f16)))
    (a17 : PySem.W.nsIn K mainGlobals "_law_draw" = some (some (.ref f17)))
    (a18 : PySem.W.nsIn K mainGlobals "_law_all" = some (some (.ref f18)))
    (a19 : PySem.W.nsIn K mainGlobals "_law_classes_of" = some (some (.ref f19)))
    (a20 : PySem.W.nsIn K mainGlobals "_law_told" = some (some (.ref f20)))
    (a21 : PySem.W.nsIn K mainGlobals "law" = some (some (.ref f21)))
    (v_MOST_BLOCKS : (He.Fa.int "MOST_BLOCKS" 128).ok K = true)
    (v_MOST_NESTED : (He.Fa.int "MOST_NESTED" 8).ok K = true)
    (v_MOST_CHOSEN : (He.Fa.int "MOST_CHOSEN" 10).ok K = true)
    (z_int : PySem.W.nsIn K mainGlobals "int" = some none)
    (z_len : PySem.W.nsIn K mainGlobals "len" = some none)
    (z_list : PySem.W.nsIn K mainGlobals "list" = some none)
    (z_range : PySem.W.nsIn K mainGlobals "range" = some none)
    (z_repr : PySem.W.nsIn K mainGlobals "repr" = some none)
    (z_tuple : PySem.W.nsIn K mainGlobals "tuple" = some none)
    (z_isinstance : PySem.W.nsIn K mainGlobals "isinstance" = some none)
    (z_all : PySem.W.nsIn K mainGlobals "all" = some none)
    (z_str : PySem.W.nsIn K mainGlobals "str" = some none)
    (z_bool : PySem.W.nsIn K mainGlobals "bool" = some none)
    (z_ValueError : PySem.W.nsIn K mainGlobals "ValueError" = some none)
    (z_enumerate : PySem.W.nsIn K mainGlobals "enumerate" = some none)
    (z_sorted : PySem.W.nsIn K mainGlobals "sorted" = some none)
    (aC_TooMany : PySem.W.nsIn K mainGlobals "TooMany" = some (some (.ref CTooMany)))
    (aC_LogError : PySem.W.nsIn K mainGlobals "LogError" = some (some (.ref CLogError)))
    (aC_BadBlock : PySem.W.nsIn K mainGlobals "BadBlock" = some (some (.ref CBadBlock)))
    (aC_BadChoice : PySem.W.nsIn K mainGlobals "BadChoice" = some (some (.ref CBadChoice)))
    (aC_BadCount : PySem.W.nsIn K mainGlobals "BadCount" = some (some (.ref CBadCount)))
    (aC_BadLayout : PySem.W.nsIn K mainGlobals "BadLayout" = some (some (.ref CBadLayout)))
    (aC_BadPath : PySem.W.nsIn K mainGlobals "BadPath" = some (some (.ref CBadPath)))
    (aC_BadRule : PySem.W.nsIn K mainGlobals "BadRule" = some (some (.ref CBadRule)))
    (aC_BadStep : PySem.W.nsIn K mainGlobals "BadStep" = some (some (.ref CBadStep)))
    (aC_BadValue : PySem.W.nsIn K mainGlobals "BadValue" = some (some (.ref CBadValue)))
    (aC_HasEntry : PySem.W.nsIn K mainGlobals "HasEntry" = some (some (.ref CHasEntry)))
    (aC_NoEntry : PySem.W.nsIn K mainGlobals "NoEntry" = some (some (.ref CNoEntry)))
    (aC_NoRoom : PySem.W.nsIn K mainGlobals "NoRoom" = some (some (.ref CNoRoom)))
    (aC_NoSpace : PySem.W.nsIn K mainGlobals "NoSpace" = some (some (.ref CNoSpace)))
    (aC_NotEmpty : PySem.W.nsIn K mainGlobals "NotEmpty" = some (some (.ref CNotEmpty)))
    (iC_BadBlock : PySem.W.isClsIn K CBadBlock = true)
    (tC_BadBlock : PySem.W.typeIn K (.ref CBadBlock) = some (.type "type"))
    (iC_BadChoice : PySem.W.isClsIn K CBadChoice = true)
    (tC_BadChoice : PySem.W.typeIn K (.ref CBadChoice) = some (.type "type"))
    (iC_BadCount : PySem.W.isClsIn K CBadCount = true)
    (tC_BadCount : PySem.W.typeIn K (.ref CBadCount) = some (.type "type"))
    (iC_BadLayout : PySem.W.isClsIn K CBadLayout = true)
    (tC_BadLayout : PySem.W.typeIn K (.ref CBadLayout) = some (.type "type"))
    (iC_BadPath : PySem.W.isClsIn K CBadPath = true)
    (tC_BadPath : PySem.W.typeIn K (.ref CBadPath) = some (.type "type"))
    (iC_BadRule : PySem.W.isClsIn K CBadRule = true)
    (tC_BadRule : PySem.W.typeIn K (.ref CBadRule) = some (.type "type"))
    (iC_BadStep : PySem.W.isClsIn K CBadStep = true)
    (tC_BadStep : PySem.W.typeIn K (.ref CBadStep) = some (.type "type"))
    (iC_BadValue : PySem.W.isClsIn K CBadValue = true)
    (tC_BadValue : PySem.W.typeIn K (.ref CBadValue) = some (.type "type"))
    (iC_HasEntry : PySem.W.isClsIn K CHasEntry = true)
    (tC_HasEntry : PySem.W.typeIn K (.ref CHasEntry) = some (.type "type"))
    (iC_NoEntry : PySem.W.isClsIn K CNoEntry = true)
    (tC_NoEntry : PySem.W.typeIn K (.ref CNoEntry) = some (.type "type"))
    (iC_NoRoom : PySem.W.isClsIn K CNoRoom = true)
    (tC_NoRoom : PySem.W.typeIn K (.ref CNoRoom) = some (.type "type"))
    (iC_NoSpace : PySem.W.isClsIn K CNoSpace = true)
    (tC_NoSpace : PySem.W.typeIn K (.ref CNoSpace) = some (.type "type"))
    (iC_NotEmpty : PySem.W.isClsIn K CNotEmpty = true)
    (tC_NotEmpty : PySem.W.typeIn K (.ref CNotEmpty) = some (.type "type"))
    (iC_LogError : PySem.W.isClsIn K CLogError = true)
    (tC_LogError : PySem.W.typeIn K (.ref CLogError) = some (.type "type"))
    (eC_LogError : PySem.W.subIn K (.ref CLogError) (.type "BaseException") = some true)
    (hcl_TooMany : PySem.W.findIn K (.ref CTooMany) "__class__" = some (some (.builtin "object.__class__")))
    (mo_TooMany : PySem.W.mroIn K CTooMany (.type "object") = some true)
    (sb_TooMany_BadBlock : PySem.W.subIn K (.ref CTooMany) (.ref CBadBlock) = some false)
    (sb_TooMany_BadChoice : PySem.W.subIn K (.ref CTooMany) (.ref CBadChoice) = some false)
    (sb_TooMany_BadCount : PySem.W.subIn K (.ref CTooMany) (.ref CBadCount) = some false)
    (sb_TooMany_BadLayout : PySem.W.subIn K (.ref CTooMany) (.ref CBadLayout) = some false)
    (sb_TooMany_BadPath : PySem.W.subIn K (.ref CTooMany) (.ref CBadPath) = some false)
    (sb_TooMany_BadRule : PySem.W.subIn K (.ref CTooMany) (.ref CBadRule) = some false)
    (sb_TooMany_BadStep : PySem.W.subIn K (.ref CTooMany) (.ref CBadStep) = some false)
    (sb_TooMany_BadValue : PySem.W.subIn K (.ref CTooMany) (.ref CBadValue) = some false)
    (sb_TooMany_HasEntry : PySem.W.subIn K (.ref CTooMany) (.ref CHasEntry) = some false)
    (sb_TooMany_NoEntry : PySem.W.subIn K (.ref CTooMany) (.ref CNoEntry) = some false)
    (sb_TooMany_NoRoom : PySem.W.subIn K (.ref CTooMany) (.ref CNoRoom) = some false)
    (sb_TooMany_NoSpace : PySem.W.subIn K (.ref CTooMany) (.ref CNoSpace) = some false)
    (sb_TooMany_NotEmpty : PySem.W.subIn K (.ref CTooMany) (.ref CNotEmpty) = some false)
    (sb_TooMany_LogError : PySem.W.subIn K (.ref CTooMany) (.ref CLogError) = some true)
    (oT_TooMany : OexC K CTooMany)
    (sa_TooMany : PySem.W.findIn K (.ref CTooMany) "__setattr__" = some (some (.builtin "object.__setattr__")))
    (ga_TooMany : PySem.W.findIn K (.ref CTooMany) "__getattribute__" = some (some (.builtin "BaseException.__getattribute__")))
    (gg_TooMany : PySem.W.findIn K (.ref CTooMany) "__getattr__" = some none)
    (kC_TooMany : PySem.W.keepIn K (.ref CTooMany) = true)
    (eC_TooMany : PySem.W.subIn K (.ref CTooMany) (.type "BaseException") = some true)
    (tC_TooMany : PySem.W.typeIn K (.ref CTooMany) = some (.type "type"))
    (hC_TooMany : PySem.W.hasDictIn K CTooMany = true)
    (iC_TooMany : PySem.W.isClsIn K CTooMany = true)
    (sC_TooMany : PySem.W.subIn K (.ref CTooMany) (.ref CTooMany) = some true)
    (nf_TooMany_why : PySem.W.findIn K (.ref CTooMany) "why" = some none)
    (nf_TooMany_limit : PySem.W.findIn K (.ref CTooMany) "limit" = some none)
    (ti_TooMany : PySem.W.typeIn K (.ref f4) = some (.type "function"))
    (rd_LogError : PySem.W.readsIn K CLogError (.type "type") = true)
    (sg_LogError : PySem.W.specialIn K (.ref CLogError) "__getattribute__" = some (some (.builtin "type.__getattribute__")))
    (fc_LogError : PySem.W.findCls K (.ref CLogError) (.type "type") "__init__" = some (.val (.ref f3)))
    (xgC : PySem.W.specialIn K (.builtin "object.__class__") "__get__" = some (some (.builtin "getset_descriptor.__get__")))
    (xtC : PySem.W.takesIn K (.builtin "object.__class__") = some true)
    (vV : PySem.W.findCls K (.type "ValueError") (.type "type") "__init__" = some (.val (.builtin "ValueError.__init__")))
    : ∃ fd : FuncData, (∀ (s : Shared) (v : Value), BindsTo s fd ⟨[v], []⟩ [("_law_script", v)]) ∧ ∀ base : Heap, K.In base → base.Ns mainGlobals mg → FnG P w K mg base CX0 14 fa fd ["_law_script"] (spLaw K) := by
  have e := hfa.symm.trans (PySem.W.mg_of X G a21)
  cases e
  have k0 := F0.kp
  have k1 := F1.kp
  have k2 := F2.kp
  have k3 := F3.kp
  have k4 := F4.kp
  have k5 := F5.kp
  have k6 := F6.kp
  have k7 := F7.kp
  have k8 := F8.kp
  have k9 := F9.kp
  have k10 := F10.kp
  have k11 := F11.kp
  have k12 := F12.kp
  have k13 := F13.kp
  have k14 := F14.kp
  have k15 := F15.kp
  have k16 := F16.kp
  have k17 := F17.kp
  have k18 := F18.kp
  have k19 := F19.kp
  have k20 := F20.kp
  have k21 := F21.kp
  have B : Bl mg := ⟨PySem.W.mg_none_of X G z_int, PySem.W.mg_none_of X G z_len, PySem.W.mg_none_of X G z_list, PySem.W.mg_none_of X G z_range, PySem.W.mg_none_of X G z_repr, PySem.W.mg_none_of X G z_tuple, PySem.W.mg_none_of X G z_isinstance, PySem.W.mg_none_of X G z_all, PySem.W.mg_none_of X G z_str, PySem.W.mg_none_of X G z_bool, PySem.W.mg_none_of X G z_ValueError, PySem.W.mg_none_of X G z_enumerate, PySem.W.mg_none_of X G z_sorted⟩
  have G_ : Gi mg := ⟨He.int_ok X G v_MOST_BLOCKS, He.int_ok X G v_MOST_NESTED, He.int_ok X G v_MOST_CHOSEN⟩
  have cl_Disk : Cls K CDisk := ⟨pg_Disk, hd_Disk, po_Disk, sa_Disk⟩
  have T_Disk : TDisk K CDisk := ⟨cl_Disk, no_Disk_first, no_Disk_safe, no_Disk_writes, no_Disk_deeds⟩
  have xf_TooMany : XfC K CTooMany := ⟨ga_TooMany, gg_TooMany, eC_TooMany, hC_TooMany⟩
  have ex_TooMany := exm_self eC_TooMany iC_TooMany tC_TooMany sC_TooMany
  have gC_TooMany := PySem.W.mg_of X G aC_TooMany
  have xn_TooMany : ∀ n ∈ (["why", "limit"] : List Str), PySem.W.findIn K (.ref CTooMany) n = some none := fun n hn => by
    simp only [List.mem_cons, List.not_mem_nil, or_false] at hn
    rcases hn with rfl | rfl
    · exact nf_TooMany_why
    · exact nf_TooMany_limit
  have gC_BadBlock := PySem.W.mg_of X G aC_BadBlock
  have gC_BadChoice := PySem.W.mg_of X G aC_BadChoice
  have gC_BadCount := PySem.W.mg_of X G aC_BadCount
  have gC_BadLayout := PySem.W.mg_of X G aC_BadLayout
  have gC_BadPath := PySem.W.mg_of X G aC_BadPath
  have gC_BadRule := PySem.W.mg_of X G aC_BadRule
  have gC_BadStep := PySem.W.mg_of X G aC_BadStep
  have gC_BadValue := PySem.W.mg_of X G aC_BadValue
  have gC_HasEntry := PySem.W.mg_of X G aC_HasEntry
  have gC_NoEntry := PySem.W.mg_of X G aC_NoEntry
  have gC_NoRoom := PySem.W.mg_of X G aC_NoRoom
  have gC_NoSpace := PySem.W.mg_of X G aC_NoSpace
  have gC_NotEmpty := PySem.W.mg_of X G aC_NotEmpty
  have gC_LogError := PySem.W.mg_of X G aC_LogError
  have EN : ENames mg CBadBlock CBadChoice CBadCount CBadLayout CBadPath CBadRule CBadStep CBadValue CHasEntry CNoEntry CNoRoom CNoSpace CNotEmpty CTooMany CLogError := ⟨gC_BadBlock, gC_BadChoice, gC_BadCount, gC_BadLayout, gC_BadPath, gC_BadRule, gC_BadStep, gC_BadValue, gC_HasEntry, gC_NoEntry, gC_NoRoom, gC_NoSpace, gC_NotEmpty, gC_TooMany, gC_LogError⟩
  have ec_TooMany : ExcC K CTooMany := ⟨ga_TooMany, gg_TooMany, eC_TooMany, hC_TooMany, hcl_TooMany, xgC, xtC, mo_TooMany⟩
  have O_TooMany : OneOf K CTooMany 13 CBadBlock CBadChoice CBadCount CBadLayout CBadPath CBadRule CBadStep CBadValue CHasEntry CNoEntry CNoRoom CNoSpace CNotEmpty CTooMany CLogError := ⟨kit_clF iC_BadBlock tC_BadBlock sC_TooMany sb_TooMany_BadBlock, kit_clF iC_BadChoice tC_BadChoice sC_TooMany sb_TooMany_BadChoice, kit_clF iC_BadCount tC_BadCount sC_TooMany sb_TooMany_BadCount, kit_clF iC_BadLayout tC_BadLayout sC_TooMany sb_TooMany_BadLayout, kit_clF iC_BadPath tC_BadPath sC_TooMany sb_TooMany_BadPath, kit_clF iC_BadRule tC_BadRule sC_TooMany sb_TooMany_BadRule, kit_clF iC_BadStep tC_BadStep sC_TooMany sb_TooMany_BadStep, kit_clF iC_BadValue tC_BadValue sC_TooMany sb_TooMany_BadValue, kit_clF iC_HasEntry tC_HasEntry sC_TooMany sb_TooMany_HasEntry, kit_clF iC_NoEntry tC_NoEntry sC_TooMany sb_TooMany_NoEntry, kit_clF iC_NoRoom tC_NoRoom sC_TooMany sb_TooMany_NoRoom, kit_clF iC_NoSpace tC_NoSpace sC_TooMany sb_TooMany_NoSpace, kit_clF iC_NotEmpty tC_NotEmpty sC_TooMany sb_TooMany_NotEmpty, kit_self, kit_cl iC_LogError tC_LogError sb_TooMany_LogError (.inl rfl), ec_TooMany, xf_TooMany, nf_TooMany_why⟩
  have xm_TooMany := exm_cl eC_LogError iC_LogError tC_LogError sb_TooMany_LogError
  have F_is_integer := fun_of (st := s_is_integer) F0
  have b_is_integer := F_is_integer.binds (ps := ["value"]) fun _ _ _ _ _ _ us hl => match us, hl with | [_], _ => rfl
  have F_is_between := fun_of (st := s_is_between) F1
  have kb_is_between : KBn K fd1 ["value", "low", "high"] 1 ["low", "high"] (fun us ws => us ++ ws) (fun vs zs => vs ++ zs) := kbn_of F_is_between fun _ _ _ _ _ _ => ⟨fun s us ws _ h1 h2 => match us, ws, h1, h2 with | [_], [_, _], _, _ => .of_eq (by rfl), fun r1 r2 => r1.append r2⟩
  have F_is_value := F2
  have b_is_value : Binds K fd2 ["value", "depth"] [] := by
    obtain ⟨ds, hv, hb⟩ := F_is_value.binds1 (ps := ["value", "depth"]) 2 1 (by simp) rfl (fun _ _ _ _ _ _ _ us its hl hi => match us, its, hl, hi with | [_, _], [_], _, _ => ⟨_, rfl, rfl⟩)
    cases hv
    exact hb
  obtain ⟨ds_is_value, v_is_value, d_is_value⟩ := F_is_value.binds1 (ps := ["value", "depth"]) 1 0 (by simp) rfl (fun _ _ _ _ _ _ _ us its hl hi => match us, its, hl, hi with | [_], [_], _, _ => ⟨_, rfl, rfl⟩)
  have F_LogError_init := F3
  have b_LogError_init : Binds K fd3 ["self", "why"] [] := by
    obtain ⟨ds, hv, hb⟩ := F_LogError_init.binds1 (ps := ["self", "why"]) 2 1 (by simp) rfl (fun _ _ _ _ _ _ _ us its hl hi => match us, its, hl, hi with | [_, _], [_], _, _ => ⟨_, rfl, rfl⟩)
    cases hv
    exact hb
  have F_TooMany_init := fun_of (st := s_TooMany_init) F4
  have b_TooMany_init := F_TooMany_init.binds (ps := ["self", "limit"]) fun _ _ _ _ _ _ us hl => match us, hl with | [_, _], _ => rfl
  have F_Disk_init := fun_of (st := s_Disk_init) F5
  have b_Disk_init := F_Disk_init.binds (ps := ["self", "blocks"]) fun _ _ _ _ _ _ us hl => match us, hl with | [_, _], _ => rfl
  have F_Disk_check_block := fun_of (st := s_Disk_check_block) F6
  have b_Disk_check_block := F_Disk_check_block.binds (ps := ["self", "block"]) fun _ _ _ _ _ _ us hl => match us, hl with | [_, _], _ => rfl
  have F_Disk_write := fun_of (st := s_Disk_write) F7
  have b_Disk_write := F_Disk_write.binds (ps := ["self", "block", "value"]) fun _ _ _ _ _ _ us hl => match us, hl with | [_, _, _], _ => rfl
  have F_Disk_flush := fun_of (st := s_Disk_flush) F8
  have b_Disk_flush := F_Disk_flush.binds (ps := ["self"]) fun _ _ _ _ _ _ us hl => match us, hl with | [_], _ => rfl
  have F_Disk_durable := fun_of (st := s_Disk_durable) F9
  have b_Disk_durable := F_Disk_durable.binds (ps := ["self"]) fun _ _ _ _ _ _ us hl => match us, hl with | [_], _ => rfl
  have F_Disk_pending := fun_of (st := s_Disk_pending) F10
  have b_Disk_pending := F_Disk_pending.binds (ps := ["self"]) fun _ _ _ _ _ _ us hl => match us, hl with | [_], _ => rfl
  have F_check_choice := fun_of (st := s_check_choice) F11
  have b_check_choice := F_check_choice.binds (ps := ["kept", "count"]) fun _ _ _ _ _ _ us hl => match us, hl with | [_, _], _ => rfl
  have F_beginning_with := fun_of (st := s_beginning_with) F12
  have b_beginning_with := F_beginning_with.binds (ps := ["values"]) fun _ _ _ _ _ _ us hl => match us, hl with | [_], _ => rfl
  have F_Disk_crashed := fun_of (st := s_Disk_crashed) F13
  have b_Disk_crashed := F_Disk_crashed.binds (ps := ["self", "kept"]) fun _ _ _ _ _ _ us hl => match us, hl with | [_, _], _ => rfl
  have F_crash_choices := fun_of (st := s_crash_choices) F14
  have b_crash_choices := F_crash_choices.binds (ps := ["disk"]) fun _ _ _ _ _ _ us hl => match us, hl with | [_], _ => rfl
  have F_law_cell_at := fun_of (st := s_law_cell_at) F15
  have b_law_cell_at := F_law_cell_at.binds (ps := ["_law_script", "_law_k"]) fun _ _ _ _ _ _ us hl => match us, hl with | [_, _], _ => rfl
  have F_law_well := fun_of (st := s_law_well) F16
  have b_law_well := F_law_well.binds (ps := ["_law_cell"]) fun _ _ _ _ _ _ us hl => match us, hl with | [_], _ => rfl
  have F_law_draw := fun_of (st := s_law_draw) F17
  have b_law_draw := F_law_draw.binds (ps := ["_law_well_here", "_law_many"]) fun _ _ _ _ _ _ us hl => match us, hl with | [_, _], _ => rfl
  have F_law_all := fun_of (st := s_law_all) F18
  have b_law_all := F_law_all.binds (ps := ["_law_count"]) fun _ _ _ _ _ _ us hl => match us, hl with | [_], _ => rfl
  have F_law_classes_of := fun_of (st := s_law_classes_of) F19
  have b_law_classes_of := F_law_classes_of.binds (ps := ["_law_e"]) fun _ _ _ _ _ _ us hl => match us, hl with | [_], _ => rfl
  have F_law_told := fun_of (st := s_law_told) F20
  have b_law_told := F_law_told.binds (ps := ["_law_disk"]) fun _ _ _ _ _ _ us hl => match us, hl with | [_], _ => rfl
  have F_law := fun_of (st := s_law) F21
  refine ⟨fd21, bindsTo_of F_law fun _ _ _ _ _ _ s v => .of_eq rfl, fun base _ _ => ?_⟩
  have C_is_integer : Cl P w K mg base CX0 1 "is_integer" (spIsInt K) := ⟨_, _, _, ok_is_integer F_is_integer B, PySem.W.mg_of X G a0, k0, b_is_integer⟩
  have K_is_between : ClK P w K mg base CX0 2 "is_between" 1 ["low", "high"] (spBet K) := ⟨_, _, _, _, _, ok_is_between F_is_between C_is_integer, PySem.W.mg_of X G a1, k1, kb_is_between, rfl⟩
  have V_is_value : ∀ m : Nat, Cl P w K mg base CX0 (m + 1) "is_value" (spVal K m) := fun m => by
    induction m with
    | zero =>
      have no : ∀ vs H Q E, spVal K 0 vs H Q E → False := fun vs H Q E h => by
        obtain ⟨_, _, _, dep, _, _, _, h1, h2, _⟩ := h
        omega
      exact ⟨_, _, ["value", "depth"], ⟨fun vs H Q E h => (no vs H Q E h).elim, fun _ _ _ _ _ _ _ _ _ _ _ _ _ h => (no _ _ _ _ h).elim⟩, PySem.W.mg_of X G a2, k2, b_is_value⟩
    | succ m ih => exact ⟨_, _, _, ok_is_value F_is_value B G_ C_is_integer ih, PySem.W.mg_of X G a2, k2, b_is_value⟩
  have W_is_value := ok_is_value F_is_value B G_ C_is_integer (V_is_value 8)
  have C_is_value : Cl P w K mg base CX0 11 "is_value" (spVal K 9) := ⟨_, _, _, ⟨W_is_value.len, fun A o s H a us vs Q E hr => W_is_value.run A o s H a us vs Q E (hr.mono (by decide))⟩, PySem.W.mg_of X G a2, k2, b_is_value⟩
  have D_is_value : C8.Cal P w K mg base 11 "is_value" (spVal K 9) [.int 0] := ⟨_, _, _, _, ⟨W_is_value.len, fun A o s H a us vs Q E hr => W_is_value.run A o s H a us vs Q E (hr.mono (by decide))⟩, PySem.W.mg_of X G a2, k2, d_is_value, v_is_value⟩
  have N_LogError_init : CFn P w K mg base CX0 1 "LogError" "__init__" (spX K ["why"] foWhy) := ⟨_, _, _, _, ok_LogError_init F_LogError_init B vV, PySem.W.mg_of X G aC_LogError, ⟨rd_LogError, sg_LogError⟩, fc_LogError, k3, b_LogError_init⟩
  have X_TooMany : Oex P w K mg base 2 "TooMany" CTooMany (spX K ["why", "limit"] (fo1 "limit" "too many")) := ⟨_, _, _, ok_TooMany_init F_TooMany_init N_LogError_init, oT_TooMany, a4, ti_TooMany, PySem.W.mg_of X G aC_TooMany, b_TooMany_init⟩
  have N_Disk : C8.Mak P w K mg base 3 "Disk" CDisk (spDiskInit K CDisk) [] := ⟨_, _, _, _, ⟨mk_Disk, a5, i5, kc_Disk⟩, ok_Disk_init F_Disk_init G_ T_Disk K_is_between, PySem.W.mg_of X G aC_Disk, b_Disk_init, .nil⟩
  have M_Disk_check_block : C8.Met P w K mg base 3 CDisk "check_block" (spCheck K CDisk) [] := ⟨_, _, _, _, cl_Disk, ⟨a6, i6, k6⟩, ok_Disk_check F_Disk_check_block B T_Disk K_is_between, b_Disk_check_block, .nil⟩
  have M_Disk_write : C8.Met P w K mg base 12 CDisk "write" (spWrite K CDisk) [] := ⟨_, _, _, _, cl_Disk, ⟨a7, i7, k7⟩, ok_Disk_write F_Disk_write T_Disk M_Disk_check_block D_is_value, b_Disk_write, .nil⟩
  have M_Disk_flush : C8.Met P w K mg base 1 CDisk "flush" (spFlush K CDisk) [] := ⟨_, _, _, _, cl_Disk, ⟨a8, i8, k8⟩, ok_Disk_flush F_Disk_flush T_Disk, b_Disk_flush, .nil⟩
  have M_Disk_durable : C8.Met P w K mg base 1 CDisk "durable" (spCopyOf K CDisk DM.safe) [] := ⟨_, _, _, _, cl_Disk, ⟨a9, i9, k9⟩, ok_Disk_durable F_Disk_durable B T_Disk, b_Disk_durable, .nil⟩
  have M_Disk_pending : C8.Met P w K mg base 1 CDisk "pending" (spCopyOf K CDisk fun D => D.writes.map dWr) [] := ⟨_, _, _, _, cl_Disk, ⟨a10, i10, k10⟩, ok_Disk_pending F_Disk_pending B T_Disk, b_Disk_pending, .nil⟩
  have C_check_choice : Cl P w K mg base CX0 3 "check_choice" (spChoice K) := ⟨_, _, _, ok_check_choice F_check_choice B K_is_between, PySem.W.mg_of X G a11, k11, b_check_choice⟩
  have C_beginning_with : Cl P w K mg base CX0 5 "beginning_with" (spBegin K CDisk) := ⟨_, _, _, ok_beginning_with F_beginning_with B T_Disk N_Disk, PySem.W.mg_of X G a12, k12, b_beginning_with⟩
  have M_Disk_crashed : C8.Met P w K mg base 6 CDisk "crashed" (spCrashed K CDisk) [] := ⟨_, _, _, _, cl_Disk, ⟨a13, i13, k13⟩, ok_Disk_crashed F_Disk_crashed B T_Disk C_check_choice C_beginning_with, b_Disk_crashed, .nil⟩
  have C_crash_choices : Cl P w K mg base (L2.CX P w) 4 "crash_choices" (spCCA K CDisk CTooMany) := ⟨_, _, _, ok_crash_choicesA F_crash_choices B G_ M_Disk_pending X_TooMany xn_TooMany, PySem.W.mg_of X G a14, k14, b_crash_choices⟩
  have C_law_cell_at : Cl P w K mg base CX0 1 "_law_cell_at" (spCell K) := ⟨_, _, _, ok_cell F_law_cell_at B, PySem.W.mg_of X G a15, k15, b_law_cell_at⟩
  have C_law_well : Cl P w K mg base CX0 1 "_law_well" spWell := ⟨_, _, _, ok_well F_law_well B, PySem.W.mg_of X G a16, k16, b_law_well⟩
  have C_law_draw : Cl P w K mg base CX0 1 "_law_draw" spDraw := ⟨_, _, _, ok_draw F_law_draw B, PySem.W.mg_of X G a17, k17, b_law_draw⟩
  have C_law_all : Cl P w K mg base CX0 1 "_law_all" (spAll K) := ⟨_, _, _, ok_all F_law_all B, PySem.W.mg_of X G a18, k18, b_law_all⟩
  have C_law_classes_of : ClP P w K mg base CX0 1 "_law_classes_of" (liftX (spClasses K CBadBlock CBadChoice CBadCount CBadLayout CBadPath CBadRule CBadStep CBadValue CHasEntry CNoEntry CNoRoom CNoSpace CNotEmpty CTooMany CLogError)) := ⟨_, _, _, ok_classes_of F_law_classes_of B EN, PySem.W.mg_of X G a19, k19, b_law_classes_of⟩
  have C_law_told : Cl P w K mg base CX0 5 "_law_told" (spTold K CDisk) := ⟨_, _, _, ok_told F_law_told B EN O_TooMany nf_TooMany_limit xm_TooMany C_crash_choices C_law_classes_of, PySem.W.mg_of X G a20, k20, b_law_told⟩
  exact ok_law F_law B T_Disk C_law_cell_at C_law_well C_law_draw N_Disk C_law_told C_law_all M_Disk_write M_Disk_flush M_Disk_crashed M_Disk_durable M_Disk_pending
theorem facts {P : Program} {w : World} {K : PySem.W.Frag} {h : Heap} {mg : Str → Option Value} {fa : Addr} (X : K.In h) (G : h.Ns mainGlobals mg) (hfa : mg "law" = some (.ref fa)) (c : SaysJ L03H.fa L03H.fn K) :
    ∃ fd : FuncData, (∀ (s : Shared) (v : Value), BindsTo s fd ⟨[v], []⟩ [("_law_script", v)]) ∧ ∀ base : Heap, K.In base → base.Ns mainGlobals mg → FnG P w K mg base CX0 14 fa fd ["_law_script"] (spLaw K) := by
  obtain ⟨fd0, F0⟩ := c.def_ 0 (d := L03H.D0) rfl
  obtain ⟨fd1, F1⟩ := c.def_ 1 (d := L03H.D1) rfl
  obtain ⟨fd2, F2⟩ := c.def_ 2 (d := L03H.D2) rfl
  obtain ⟨fd3, F3⟩ := c.def_ 3 (d := L03H.D3) rfl
  obtain ⟨fd4, F4⟩ := c.def_ 4 (d := L03H.D4) rfl
  obtain ⟨fd5, F5⟩ := c.def_ 5 (d := L03H.D5) rfl
  obtain ⟨fd6, F6⟩ := c.def_ 6 (d := L03H.D6) rfl
  obtain ⟨fd7, F7⟩ := c.def_ 7 (d := L03H.D7) rfl
  obtain ⟨fd8, F8⟩ := c.def_ 8 (d := L03H.D8) rfl
  obtain ⟨fd9, F9⟩ := c.def_ 9 (d := L03H.D9) rfl
  obtain ⟨fd10, F10⟩ := c.def_ 10 (d := L03H.D10) rfl
  obtain ⟨fd11, F11⟩ := c.def_ 11 (d := L03H.D11) rfl
  obtain ⟨fd12, F12⟩ := c.def_ 12 (d := L03H.D12) rfl
  obtain ⟨fd13, F13⟩ := c.def_ 13 (d := L03H.D13) rfl
  obtain ⟨fd14, F14⟩ := c.def_ 14 (d := L03H.D14) rfl
  obtain ⟨fd15, F15⟩ := c.def_ 15 (d := L03H.D15) rfl
  obtain ⟨fd16, F16⟩ := c.def_ 16 (d := L03H.D16) rfl
  obtain ⟨fd17, F17⟩ := c.def_ 17 (d := L03H.D17) rfl
  obtain ⟨fd18, F18⟩ := c.def_ 18 (d := L03H.D18) rfl
  obtain ⟨fd19, F19⟩ := c.def_ 19 (d := L03H.D19) rfl
  obtain ⟨fd20, F20⟩ := c.def_ 20 (d := L03H.D20) rfl
  obtain ⟨fd21, F21⟩ := c.def_ 21 (d := L03H.D21) rfl
  have r0 := c.part 0 (l := L03H.fa0) rfl
  obtain ⟨h_aC_Disk, r0⟩ := He.ba r0
  obtain ⟨h_pg_Disk, r0⟩ := He.ba r0
  obtain ⟨h_hd_Disk, r0⟩ := He.ba r0
  obtain ⟨h_po_Disk, r0⟩ := He.ba r0
  obtain ⟨h_sa_Disk, r0⟩ := He.ba r0
  obtain ⟨h_mk_Disk, r0⟩ := He.ba r0
  obtain ⟨h_kc_Disk, r0⟩ := He.ba r0
  obtain ⟨h_no_Disk_first, r0⟩ := He.ba r0
  obtain ⟨h_no_Disk_safe, r0⟩ := He.ba r0
  obtain ⟨h_no_Disk_writes, r0⟩ := He.ba r0
  obtain ⟨h_no_Disk_deeds, r0⟩ := He.ba r0
  obtain ⟨h_a0, r0⟩ := He.ba r0
  obtain ⟨h_a1, r0⟩ := He.ba r0
  obtain ⟨h_a2, r0⟩ := He.ba r0
  obtain ⟨h_a3, r0⟩ := He.ba r0
  obtain ⟨h_i3, r0⟩ := He.ba r0
  obtain ⟨h_a4, r0⟩ := He.ba r0
  obtain ⟨h_i4, r0⟩ := He.ba r0
  obtain ⟨h_a5, r0⟩ := He.ba r0
  obtain ⟨h_i5, r0⟩ := He.ba r0
  obtain ⟨h_a6, r0⟩ := He.ba r0
  obtain ⟨h_i6, r0⟩ := He.ba r0
  obtain ⟨h_a7, r0⟩ := He.ba r0
  obtain ⟨h_i7, r0⟩ := He.ba r0
  obtain ⟨h_a8, r0⟩ := He.ba r0
  have r1 := c.part 1 (l := L03H.fa1) rfl
  obtain ⟨h_i8, r1⟩ := He.ba r1
  obtain ⟨h_a9, r1⟩ := He.ba r1
  obtain ⟨h_i9, r1⟩ := He.ba r1
  obtain ⟨h_a10, r1⟩ := He.ba r1
  obtain ⟨h_i10, r1⟩ := He.ba r1
  obtain ⟨h_a11, r1⟩ := He.ba r1
  obtain ⟨h_a12, r1⟩ := He.ba r1
  obtain ⟨h_a13, r1⟩ := He.ba r1
  obtain ⟨h_i13, r1⟩ := He.ba r1
  obtain ⟨h_a14, r1⟩ := He.ba r1
  obtain ⟨h_a15, r1⟩ := He.ba r1
  obtain ⟨h_a16, r1⟩ := He.ba r1
  obtain ⟨h_a17, r1⟩ := He.ba r1
  obtain ⟨h_a18, r1⟩ := He.ba r1
  obtain ⟨h_a19, r1⟩ := He.ba r1
  obtain ⟨h_a20, r1⟩ := He.ba r1
  obtain ⟨h_a21, r1⟩ := He.ba r1
  obtain ⟨h_v_MOST_BLOCKS, r1⟩ := He.ba r1
  obtain ⟨h_v_MOST_NESTED, r1⟩ := He.ba r1
  obtain ⟨h_v_MOST_CHOSEN, r1⟩ := He.ba r1
  obtain ⟨h_z_int, r1⟩ := He.ba r1
  obtain ⟨h_z_len, r1⟩ := He.ba r1
  obtain ⟨h_z_list, r1⟩ := He.ba r1
  obtain ⟨h_z_range, r1⟩ := He.ba r1
  obtain ⟨h_z_repr, r1⟩ := He.ba r1
  have r2 := c.part 2 (l := L03H.fa2) rfl
  obtain ⟨h_z_tuple, r2⟩ := He.ba r2
  obtain ⟨h_z_isinstance, r2⟩ := He.ba r2
  obtain ⟨h_z_all, r2⟩ := He.ba r2
  obtain ⟨h_z_str, r2⟩ := He.ba r2
  obtain ⟨h_z_bool, r2⟩ := He.ba r2
  obtain ⟨h_z_ValueError, r2⟩ := He.ba r2
  obtain ⟨h_z_enumerate, r2⟩ := He.ba r2
  obtain ⟨h_z_sorted, r2⟩ := He.ba r2
  obtain ⟨h_aC_TooMany, r2⟩ := He.ba r2
  obtain ⟨h_aC_LogError, r2⟩ := He.ba r2
  obtain ⟨h_aC_BadBlock, r2⟩ := He.ba r2
  obtain ⟨h_aC_BadChoice, r2⟩ := He.ba r2
  obtain ⟨h_aC_BadCount, r2⟩ := He.ba r2
  obtain ⟨h_aC_BadLayout, r2⟩ := He.ba r2
  obtain ⟨h_aC_BadPath, r2⟩ := He.ba r2
  obtain ⟨h_aC_BadRule, r2⟩ := He.ba r2
  obtain ⟨h_aC_BadStep, r2⟩ := He.ba r2
  obtain ⟨h_aC_BadValue, r2⟩ := He.ba r2
  obtain ⟨h_aC_HasEntry, r2⟩ := He.ba r2
  obtain ⟨h_aC_NoEntry, r2⟩ := He.ba r2
  obtain ⟨h_aC_NoRoom, r2⟩ := He.ba r2
  obtain ⟨h_aC_NoSpace, r2⟩ := He.ba r2
  obtain ⟨h_aC_NotEmpty, r2⟩ := He.ba r2
  obtain ⟨h_iC_BadBlock, r2⟩ := He.ba r2
  obtain ⟨h_tC_BadBlock, r2⟩ := He.ba r2
  have r3 := c.part 3 (l := L03H.fa3) rfl
  obtain ⟨h_iC_BadChoice, r3⟩ := He.ba r3
  obtain ⟨h_tC_BadChoice, r3⟩ := He.ba r3
  obtain ⟨h_iC_BadCount, r3⟩ := He.ba r3
  obtain ⟨h_tC_BadCount, r3⟩ := He.ba r3
  obtain ⟨h_iC_BadLayout, r3⟩ := He.ba r3
  obtain ⟨h_tC_BadLayout, r3⟩ := He.ba r3
  obtain ⟨h_iC_BadPath, r3⟩ := He.ba r3
  obtain ⟨h_tC_BadPath, r3⟩ := He.ba r3
  obtain ⟨h_iC_BadRule, r3⟩ := He.ba r3
  obtain ⟨h_tC_BadRule, r3⟩ := He.ba r3
  obtain ⟨h_iC_BadStep, r3⟩ := He.ba r3
  obtain ⟨h_tC_BadStep, r3⟩ := He.ba r3
  obtain ⟨h_iC_BadValue, r3⟩ := He.ba r3
  obtain ⟨h_tC_BadValue, r3⟩ := He.ba r3
  obtain ⟨h_iC_HasEntry, r3⟩ := He.ba r3
  obtain ⟨h_tC_HasEntry, r3⟩ := He.ba r3
  obtain ⟨h_iC_NoEntry, r3⟩ := He.ba r3
  obtain ⟨h_tC_NoEntry, r3⟩ := He.ba r3
  obtain ⟨h_iC_NoRoom, r3⟩ := He.ba r3
  obtain ⟨h_tC_NoRoom, r3⟩ := He.ba r3
  obtain ⟨h_iC_NoSpace, r3⟩ := He.ba r3
  obtain ⟨h_tC_NoSpace, r3⟩ := He.ba r3
  obtain ⟨h_iC_NotEmpty, r3⟩ := He.ba r3
  obtain ⟨h_tC_NotEmpty, r3⟩ := He.ba r3
  obtain ⟨h_iC_LogError, r3⟩ := He.ba r3
  have r4 := c.part 4 (l := L03H.fa4) rfl
  obtain ⟨h_tC_LogError, r4⟩ := He.ba r4
  obtain ⟨h_eC_LogError, r4⟩ := He.ba r4
  obtain ⟨h_hcl_TooMany, r4⟩ := He.ba r4
  obtain ⟨h_mo_TooMany, r4⟩ := He.ba r4
  obtain ⟨h_sb_TooMany_BadBlock, r4⟩ := He.ba r4
  obtain ⟨h_sb_TooMany_BadChoice, r4⟩ := He.ba r4
  obtain ⟨h_sb_TooMany_BadCount, r4⟩ := He.ba r4
  obtain ⟨h_sb_TooMany_BadLayout, r4⟩ := He.ba r4
  obtain ⟨h_sb_TooMany_BadPath, r4⟩ := He.ba r4
  obtain ⟨h_sb_TooMany_BadRule, r4⟩ := He.ba r4
  obtain ⟨h_sb_TooMany_BadStep, r4⟩ := He.ba r4
  obtain ⟨h_sb_TooMany_BadValue, r4⟩ := He.ba r4
  obtain ⟨h_sb_TooMany_HasEntry, r4⟩ := He.ba r4
  obtain ⟨h_sb_TooMany_NoEntry, r4⟩ := He.ba r4
  obtain ⟨h_sb_TooMany_NoRoom, r4⟩ := He.ba r4
  obtain ⟨h_sb_TooMany_NoSpace, r4⟩ := He.ba r4
  obtain ⟨h_sb_TooMany_NotEmpty, r4⟩ := He.ba r4
  obtain ⟨h_sb_TooMany_LogError, r4⟩ := He.ba r4
  obtain ⟨h_oT_TooMany, r4⟩ := He.ba r4
  obtain ⟨h_sa_TooMany, r4⟩ := He.ba r4
  obtain ⟨h_ga_TooMany, r4⟩ := He.ba r4
  obtain ⟨h_gg_TooMany, r4⟩ := He.ba r4
  obtain ⟨h_kC_TooMany, r4⟩ := He.ba r4
  obtain ⟨h_eC_TooMany, r4⟩ := He.ba r4
  obtain ⟨h_tC_TooMany, r4⟩ := He.ba r4
  have r5 := c.part 5 (l := L03H.fa5) rfl
  obtain ⟨h_hC_TooMany, r5⟩ := He.ba r5
  obtain ⟨h_iC_TooMany, r5⟩ := He.ba r5
  obtain ⟨h_sC_TooMany, r5⟩ := He.ba r5
  obtain ⟨h_nf_TooMany_why, r5⟩ := He.ba r5
  obtain ⟨h_nf_TooMany_limit, r5⟩ := He.ba r5
  obtain ⟨h_ti_TooMany, r5⟩ := He.ba r5
  obtain ⟨h_rd_LogError, r5⟩ := He.ba r5
  obtain ⟨h_sg_LogError, r5⟩ := He.ba r5
  obtain ⟨h_fc_LogError, r5⟩ := He.ba r5
  obtain ⟨h_xgC, r5⟩ := He.ba r5
  obtain ⟨h_xtC, r5⟩ := He.ba r5
  obtain ⟨h_vV, r5⟩ := He.ba r5
  exact all_mk (P := P) (w := w) (CDisk := (He.ga K "Disk")) (f0 := (He.ga K "is_integer")) (f1 := (He.ga K "is_between")) (f2 := (He.ga K "is_value")) (CLogError := (He.ga K "LogError")) (f3 := (He.ma K (He.ga K "LogError") "__init__")) (CTooMany := (He.ga K "TooMany")) (f4 := (He.ma K (He.ga K "TooMany") "__init__")) (f5 := (He.ma K (He.ga K "Disk") "__init__")) (f6 := (He.ma K (He.ga K "Disk") "check_block")) (f7 := (He.ma K (He.ga K "Disk") "write")) (f8 := (He.ma K (He.ga K "Disk") "flush")) (f9 := (He.ma K (He.ga K "Disk") "durable")) (f10 := (He.ma K (He.ga K "Disk") "pending")) (f11 := (He.ga K "check_choice")) (f12 := (He.ga K "beginning_with")) (f13 := (He.ma K (He.ga K "Disk") "crashed")) (f14 := (He.ga K "crash_choices")) (f15 := (He.ga K "_law_cell_at")) (f16 := (He.ga K "_law_well")) (f17 := (He.ga K "_law_draw")) (f18 := (He.ga K "_law_all")) (f19 := (He.ga K "_law_classes_of")) (f20 := (He.ga K "_law_told")) (f21 := (He.ga K "law")) (CBadBlock := (He.ga K "BadBlock")) (CBadChoice := (He.ga K "BadChoice")) (CBadCount := (He.ga K "BadCount")) (CBadLayout := (He.ga K "BadLayout")) (CBadPath := (He.ga K "BadPath")) (CBadRule := (He.ga K "BadRule")) (CBadStep := (He.ga K "BadStep")) (CBadValue := (He.ga K "BadValue")) (CHasEntry := (He.ga K "HasEntry")) (CNoEntry := (He.ga K "NoEntry")) (CNoRoom := (He.ga K "NoRoom")) (CNoSpace := (He.ga K "NoSpace")) (CNotEmpty := (He.ga K "NotEmpty")) X G hfa F0 F1 F2 F3 F4 F5 F6 F7 F8 F9 F10 F11 F12 F13 F14 F15 F16 F17 F18 F19 F20 F21
    (of_decide_eq_true h_aC_Disk)
    h_pg_Disk
    h_hd_Disk
    h_po_Disk
    (of_decide_eq_true h_sa_Disk)
    h_mk_Disk
    h_kc_Disk
    (of_decide_eq_true h_no_Disk_first)
    (of_decide_eq_true h_no_Disk_safe)
    (of_decide_eq_true h_no_Disk_writes)
    (of_decide_eq_true h_no_Disk_deeds)
    (of_decide_eq_true h_a0)
    (of_decide_eq_true h_a1)
    (of_decide_eq_true h_a2)
    (of_decide_eq_true h_a3)
    h_i3
    (of_decide_eq_true h_a4)
    h_i4
    (of_decide_eq_true h_a5)
    h_i5
    (of_decide_eq_true h_a6)
    h_i6
    (of_decide_eq_true h_a7)
    h_i7
    (of_decide_eq_true h_a8)
    h_i8
    (of_decide_eq_true h_a9)
    h_i9
    (of_decide_eq_true h_a10)
    h_i10
    (of_decide_eq_true h_a11)
    (of_decide_eq_true h_a12)
    (of_decide_eq_true h_a13)
    h_i13
    (of_decide_eq_true h_a14)
    (of_decide_eq_true h_a15)
    (of_decide_eq_true h_a16)
    (of_decide_eq_true h_a17)
    (of_decide_eq_true h_a18)
    (of_decide_eq_true h_a19)
    (of_decide_eq_true h_a20)
    (of_decide_eq_true h_a21)
    h_v_MOST_BLOCKS
    h_v_MOST_NESTED
    h_v_MOST_CHOSEN
    (of_decide_eq_true h_z_int)
    (of_decide_eq_true h_z_len)
    (of_decide_eq_true h_z_list)
    (of_decide_eq_true h_z_range)
    (of_decide_eq_true h_z_repr)
    (of_decide_eq_true h_z_tuple)
    (of_decide_eq_true h_z_isinstance)
    (of_decide_eq_true h_z_all)
    (of_decide_eq_true h_z_str)
    (of_decide_eq_true h_z_bool)
    (of_decide_eq_true h_z_ValueError)
    (of_decide_eq_true h_z_enumerate)
    (of_decide_eq_true h_z_sorted)
    (of_decide_eq_true h_aC_TooMany)
    (of_decide_eq_true h_aC_LogError)
    (of_decide_eq_true h_aC_BadBlock)
    (of_decide_eq_true h_aC_BadChoice)
    (of_decide_eq_true h_aC_BadCount)
    (of_decide_eq_true h_aC_BadLayout)
    (of_decide_eq_true h_aC_BadPath)
    (of_decide_eq_true h_aC_BadRule)
    (of_decide_eq_true h_aC_BadStep)
    (of_decide_eq_true h_aC_BadValue)
    (of_decide_eq_true h_aC_HasEntry)
    (of_decide_eq_true h_aC_NoEntry)
    (of_decide_eq_true h_aC_NoRoom)
    (of_decide_eq_true h_aC_NoSpace)
    (of_decide_eq_true h_aC_NotEmpty)
    h_iC_BadBlock
    (of_decide_eq_true h_tC_BadBlock)
    h_iC_BadChoice
    (of_decide_eq_true h_tC_BadChoice)
    h_iC_BadCount
    (of_decide_eq_true h_tC_BadCount)
    h_iC_BadLayout
    (of_decide_eq_true h_tC_BadLayout)
    h_iC_BadPath
    (of_decide_eq_true h_tC_BadPath)
    h_iC_BadRule
    (of_decide_eq_true h_tC_BadRule)
    h_iC_BadStep
    (of_decide_eq_true h_tC_BadStep)
    h_iC_BadValue
    (of_decide_eq_true h_tC_BadValue)
    h_iC_HasEntry
    (of_decide_eq_true h_tC_HasEntry)
    h_iC_NoEntry
    (of_decide_eq_true h_tC_NoEntry)
    h_iC_NoRoom
    (of_decide_eq_true h_tC_NoRoom)
    h_iC_NoSpace
    (of_decide_eq_true h_tC_NoSpace)
    h_iC_NotEmpty
    (of_decide_eq_true h_tC_NotEmpty)
    h_iC_LogError
    (of_decide_eq_true h_tC_LogError)
    (of_decide_eq_true h_eC_LogError)
    (of_decide_eq_true h_hcl_TooMany)
    (of_decide_eq_true h_mo_TooMany)
    (of_decide_eq_true h_sb_TooMany_BadBlock)
    (of_decide_eq_true h_sb_TooMany_BadChoice)
    (of_decide_eq_true h_sb_TooMany_BadCount)
    (of_decide_eq_true h_sb_TooMany_BadLayout)
    (of_decide_eq_true h_sb_TooMany_BadPath)
    (of_decide_eq_true h_sb_TooMany_BadRule)
    (of_decide_eq_true h_sb_TooMany_BadStep)
    (of_decide_eq_true h_sb_TooMany_BadValue)
    (of_decide_eq_true h_sb_TooMany_HasEntry)
    (of_decide_eq_true h_sb_TooMany_NoEntry)
    (of_decide_eq_true h_sb_TooMany_NoRoom)
    (of_decide_eq_true h_sb_TooMany_NoSpace)
    (of_decide_eq_true h_sb_TooMany_NotEmpty)
    (of_decide_eq_true h_sb_TooMany_LogError)
    (oexB_ok h_oT_TooMany)
    (of_decide_eq_true h_sa_TooMany)
    (of_decide_eq_true h_ga_TooMany)
    (of_decide_eq_true h_gg_TooMany)
    h_kC_TooMany
    (of_decide_eq_true h_eC_TooMany)
    (of_decide_eq_true h_tC_TooMany)
    h_hC_TooMany
    h_iC_TooMany
    (of_decide_eq_true h_sC_TooMany)
    (of_decide_eq_true h_nf_TooMany_why)
    (of_decide_eq_true h_nf_TooMany_limit)
    (of_decide_eq_true h_ti_TooMany)
    h_rd_LogError
    (of_decide_eq_true h_sg_LogError)
    (cfB_ok h_fc_LogError)
    (of_decide_eq_true h_xgC)
    (of_decide_eq_true h_xtC)
    (cfB_ok h_vV)
end L03
open PySem PySem.W PyProof.Rows in
set_option maxRecDepth 100000 in
set_option maxHeartbeats 0 in
theorem PySem.Challenge.cw_revokelog_k03_all_crash_choices_holds : PySem.Challenge.rw_revokelog_k03_all_crash_choices.Holds := by
  w_on; o_law
  refine HandSHeadRun.head_any (r := OpenLaw.row PySem.Challenge.rw_revokelog_k03_all_crash_choices) (q := view (OpenLaw.row PySem.Challenge.rw_revokelog_k03_all_crash_choices).prog [35]) (H := L03H.hk) (ob := L03H.ob) (M := 6000) (loose := L03H.names) (d := HandSHeadRun.topDef (OpenLaw.row PySem.Challenge.rw_revokelog_k03_all_crash_choices).prog 35) (kwd := []) L03H.ob_eq
    (by kernel_rfl) (fun s => by kernel_rfl) L03H.run (by kernel_rfl) (by kernel_rfl) (by kernel_rfl) (by rfl) (by first | assumption | decide +kernel) (by decide +kernel) ⟨rfl, rfl, rfl, rfl, rfl, by decide +kernel⟩ ?hw ?hc
  case hw => w_witness2
  case hc =>
    refine J.walk_ofH (l := PySem.Challenge.rw_revokelog_k03_all_crash_choices) (n := 63) (k := 14) (x := "_law_script") rfl (by decide) (by kernel_rfl) ⟨rfl, by decide, by decide⟩ ?F
    intro w mg fa h Y G hmg0
    obtain ⟨K, KX, c⟩ := Y
    have hmg : mg ("law" : PySem.Str) = some (.ref fa) := by
      have e : (HandSHeadRun.topDef (OpenLaw.row PySem.Challenge.rw_revokelog_k03_all_crash_choices).prog 35).name = ("law" : PySem.Str) := by kernel_rfl
      rw [← e]
      exact hmg0
    obtain ⟨fd, hb, hF⟩ := L03.facts (P := (PySem.Challenge.rw_revokelog_k03_all_crash_choices).prog) (w := w) KX G hmg c
    exact ⟨K, fd, L03.spLaw K, KX, hb, fun H a ns hl _ hS => ⟨a, ns, rfl, hS, hl, fun _ => rfl⟩, hF⟩
