import PyProof.Rows.All
import Wide.All
import OpenK.AllK
import Wide.FinOn
import HandS.ForMost
import HandS.Exc
import HandS.ExcOwn
import HandS.TryOnly
import HandS.WordsExc
import HandS.Flow
import HandS.Style
import HandS.IsInst
import HandS.Deep
import HandS.TupAny
import HandS.TupMul
import HandS.SortKw
import HandS.SortRule
import HandS.SortInts
import HandS.ListItems
import HandS.DictTup
import HandS.Codes
import HandS.Defaults
import HandS.Zip
import HandS.More
import HandS.Conv
import HandS.ExcInit
import HandS.ExcField
import HandS.ClsMeth
import HandS.Finally
import HandS.SetFor
import HandS.DictEq
import HandS.Wide
import HandS.Small
import PyProof.EqAt
import PyProof.NeKinds
import PyProof.DictWalks
import PyProof.WalkInts
import PyProof.MinMaxWalk
import HandS.ExcIs
import KE.KExcIs
import HandS.OwnEq
import PyProof.InstNe
import HandS.MakeKwOnly
import HandS.HotCalls
import HandS.ExcInitHot
import PyProof.StrOps2
import KE.KxPercent
import HandS.TryMany
import PySem.Challenge.RW_revokelog_k02_whole_crashes_of_disks
set_option Elab.async false
set_option maxRecDepth 100000
set_option maxHeartbeats 4000000
namespace J
open PySem PySem.Spec PyProof.Rows L2

/-! ### repr of data -/
def rRepr (K : PySem.W.Frag) : List V → Hp → VK → Prop := fun xs H Q =>
  ∃ (x : V) (d : PyData), xs = [x] ∧ Dp K H x d ∧ d.showable = true ∧ d.depth ≤ 60 ∧
    d.shown.length ≤ sizeLine ∧ Q (.str d.shown) H
theorem noDict_of_dp {K : PySem.W.Frag} {H : Hp} : ∀ (d : PyData) (v : V), Dp K H v d → d.hasDict = false := by
  intro d v h
  refine Dp.rec (motive_1 := fun _ d _ => d.hasDict = false)
    (motive_2 := fun _ ds _ => PyData.hasDictAll ds = false) ?_ ?_ ?_ ?_ ?_ ?_ ?_ ?_ h
  all_goals intros
  all_goals simp_all [PyData.hasDict, PyData.hasDictAll]
section
variable {X : Cx}
theorem call_reprD (hg : X.A.guards = some []) (hu : X.A.units + 64 < cLine) :
    CallR X (.builtin "repr") (rRepr X.K) := by
  intro pins s σ H xs us Q I r h
  obtain ⟨x, d, rfl, hd, hs, hdep, hz, q⟩ := h
  obtain ⟨u, rfl, rx⟩ := vals1 r
  cases hd with
  | non =>
    cases rx
    exact PySem.P.repr_of_none ⟨.str _, H, I.tok _, ⟨_, rfl⟩, q⟩
  | bl b =>
    cases rx
    exact PySem.P.repr_of_bool ⟨.str _, H, I.tok _, ⟨_, rfl⟩, by cases b <;> exact q⟩
  | int i =>
    obtain ⟨t, rfl⟩ := rx
    exact PySem.P.repr_of_int (by simpa [PyData.showable] using hs) ⟨.str _, H, I.tok _, ⟨_, rfl⟩, q⟩
  | str z =>
    obtain ⟨t, rfl⟩ := rx
    exact PySem.P.repr_of_str ⟨.str _, H, I.tok _, ⟨_, rfl⟩, q⟩ hz
  | @lst a ys ds hq ha =>
    obtain ⟨as, rr⟩ := Dp.reads I _ _ _ (.lst hq ha) rx
    cases rx
    have nd := noDict_of_dp _ _ (Dp.lst hq ha)
    exact repr_of_reads' rr hs (PyData.noDict_hsm nd) hg (by omega) (fun _ _ e => e)
      (fun h' v tk hk => ⟨.str _, H, I.kept hk, ⟨_, rfl⟩, q⟩) hz
  | @tup a ys ds hq ha =>
    obtain ⟨as, rr⟩ := Dp.reads I _ _ _ (.tup hq ha) rx
    cases rx
    have nd := noDict_of_dp _ _ (Dp.tup hq ha)
    exact repr_of_reads' rr hs (PyData.noDict_hsm nd) hg (by omega) (fun _ _ e => e)
      (fun h' v tk hk => ⟨.str _, H, I.kept hk, ⟨_, rfl⟩, q⟩) hz
end
end J

set_option Elab.async false
set_option linter.all false
set_option maxRecDepth 100000
set_option maxHeartbeats 4000000
namespace J
open PySem L2 PyProof.Rows

/-! ### defs by their names -/
/-- the def that stands at the module's name x keeps the promise -/
structure Cl (P : Program) (w : World) (K : PySem.W.Frag) (mg : Str → Option Value) (base : Heap)
    (CX : CXT) (k : Nat) (x : Str) (sp : Sp) : Prop where
  ex : ∃ f fd ps, FnOk P w K mg base CX k f fd ps sp ∧ mg x = some (.ref f) ∧
    PySem.W.keepIn K (.ref f) = true ∧ Binds K fd ps []

/-- the same, where no repr is under way -/
structure FnG (P : Program) (w : World) (K : PySem.W.Frag) (mg : Str → Option Value) (base : Heap)
    (CX : CXT) (k : Nat) (f : Addr) (fd : FuncData) (ps : List Str) (sp : Sp) : Prop where
  len : ∀ vs H Q E, sp vs H Q E → vs.length = ps.length
  run : ∀ (A : Around) (outer : List Env) (s : Shared) (H : Hp) (args : Args) (us : List Value)
    (vs : List V) (Q : VK) (E : XK), Room k A → A.guards = some [] →
    Env0 P w K mg base A outer s H → BindsTo s fd args (ps.zip us) → Vals vs us → sp vs H Q E →
    codeAny (model P w) A (.call (.ref f) args) (CR CX outer P w H s Q E) s
structure ClG (P : Program) (w : World) (K : PySem.W.Frag) (mg : Str → Option Value) (base : Heap)
    (CX : CXT) (k : Nat) (x : Str) (sp : Sp) : Prop where
  ex : ∃ f fd ps, FnG P w K mg base CX k f fd ps sp ∧ mg x = some (.ref f) ∧
    PySem.W.keepIn K (.ref f) = true ∧ Binds K fd ps []
theorem ClG.of {P : Program} {w : World} {K : PySem.W.Frag} {mg : Str → Option Value} {base : Heap}
    {CX : CXT} {k : Nat} {x : Str} {sp : Sp} (c : Cl P w K mg base CX k x sp) :
    ClG P w K mg base CX k x sp := by
  obtain ⟨f, fd, ps, F, hm, hk, hb⟩ := c.ex
  exact ⟨f, fd, ps, ⟨F.len, fun A o s H ar us vs Q E hr _ => F.run A o s H ar us vs Q E hr⟩, hm, hk, hb⟩

section
variable {X : Cx} {CX : CXT} {k j : Nat} {sp : Sp} {E : L2.St → XK} {x : Str} {p pos : Pos}
  {e : Expr} {es : List Expr} {t : TA}
/-- f(e, ..) -/
theorem pe_cl (c : Cl X.prog X.w X.K X.mg X.base CX k x sp) (hr : Room j X.A) (hk : k ≤ j)
    (hx : ∀ σ, PassesAt CX X σ (E σ)) (ha : PA X (e :: es) t) (hg : Gl X x := by rfl)
    (hdb : (x == ("__debug__" : Str)) = false := by decide)
    (he : starEach (e :: es) X.env = (false, eval e X.env) :: starEach es X.env := by rfl)
    (hpl : (backTo pos (starEach es X.env)).any (·.1) = false := by rfl) :
    PE X (.Call (.Name x p) (e :: es) [] pos) (tCallS sp E t) := by
  obtain ⟨f, fd, ps, F, hm, kp, hb⟩ := c.ex
  exact pe_callS F (hr.mono hk) hg hm kp hb hx ha hdb he hpl
theorem pass00 : ∀ σ, PassesAt CX0 X σ ((fun _ => E0) σ) := fun _ _ _ _ _ _ _ h => h.elim
/-- f() -/
def tCall0 (sp : Sp) (E : L2.St → XK) : TE := fun σ H Q => sp [] H Q (E σ)
theorem pe_cl0 (c : Cl X.prog X.w X.K X.mg X.base CX k x sp) (hr : Room j X.A) (hk : k ≤ j)
    (hx : ∀ σ, PassesAt CX X σ (E σ)) (hg : Gl X x := by rfl)
    (hdb : (x == ("__debug__" : Str)) = false := by decide) :
    PE X (.Call (.Name x p) [] [] pos) (tCall0 sp E) := by
  obtain ⟨f, fd, ps, F, hm, kp, hb⟩ := c.ex
  refine ⟨fun pins s σ H Q I h => ?_⟩
  refine wpAny_Call_Name_kw (ld_glob I hg hm ?_ hdb)
  exact PySem.W.callWith_K0 I.kIn kp (run_fnS (us := []) (E := E) F (hr.mono hk) hb (hx σ) I .nil h)

/-- the callee runs; no repr is under way -/
theorem run_G {f : Addr} {fd : FuncData} {ps : List Str} {pins : List (Addr × Obj)} {σ : L2.St} {H : Hp}
    {s : Shared} {Q : VK} {us : List Value} {vs : List V} {E1 : XK}
    (F : FnG X.prog X.w X.K X.mg X.base CX k f fd ps sp) (hr : Room k X.A) (hgd : X.A.guards = some [])
    (hb : Binds X.K fd ps []) (hx : PassesAt CX X σ E1) (I : Inv X pins σ H s) (r : Vals vs us)
    (h : sp vs H Q E1) : wpAny (model X.prog X.w) X.A (call (.ref f) us) (EP X pins σ Q) X.xe s := by
  have hl : us.length = ps.length := r.length.symm.trans (F.len _ _ _ _ h)
  have b := hb s us I.kIn (by rw [List.append_nil]; exact hl)
  rw [List.append_nil] at b
  have c := F.run X.A X.stack s H ⟨us, []⟩ us vs Q E1 hr hgd I.env0 b r h
  refine wpAny_call (codeAny_mono c fun res s' hq => ?_)
  match res, hq with
  | .error er, hq => exact hx pins H s er s' I hq
  | .ok (.ret _), hq => exact I.after hq
  | .ok .next, hq => exact hq.elim
  | .ok .brk, hq => exact hq.elim
  | .ok .cont, hq => exact hq.elim
theorem pe_clG (c : ClG X.prog X.w X.K X.mg X.base CX k x sp) (hr : Room j X.A) (hk : k ≤ j)
    (hgd : X.A.guards = some []) (hx : ∀ σ, PassesAt CX X σ (E σ)) (ha : PA X (e :: es) t)
    (hg : Gl X x := by rfl) (hdb : (x == ("__debug__" : Str)) = false := by decide)
    (he : starEach (e :: es) X.env = (false, eval e X.env) :: starEach es X.env := by rfl)
    (hpl : (backTo pos (starEach es X.env)).any (·.1) = false := by rfl) :
    PE X (.Call (.Name x p) (e :: es) [] pos) (tCallS sp E t) := by
  obtain ⟨f, fd, ps, F, hm, kp, hb⟩ := c.ex
  refine ⟨fun pins s σ H Q I h => wpAny_Call_Name_kw (ld_glob I hg hm ?_ hdb)⟩
  have st := thn (ha.run pos pins s σ H _ I h) (Q' := fun us s1 => X.K.In s1.heap ∧
    wpAny (model X.prog X.w) X.A (call (.ref f) us) (EP X pins σ Q) X.xe s1)
    (fun us s1 ⟨vs, H1, I1, r, q⟩ => ⟨I1.kIn, run_G F (hr.mono hk) hgd hb (hx σ) I1 r q⟩)
  exact PySem.W.callWith_K (h₀ := X.base) I.ok.mod.kin kp st he hpl
end

/-! ### a def's body, where no repr is under way -/
section
variable {P : Program} {w : World} {K : PySem.W.Frag} {mg : Str → Option Value} {base : Heap}
theorem okG {x qual : Str} {st : Stmt} {f : Addr} {fd : FuncData} {N ps : List Str} {k : Nat} {sp : Sp}
    (F : Fun K x qual st f fd) (S : FnScope N ps (defScope st))
    (len : ∀ vs H Q E, sp vs H Q E → vs.length = ps.length)
    (hbody : ∀ (cdv : Value) (A : Around) (outer : List Env) (s : Shared) (H : Hp) (vs : List V) (Q : VK) (E : XK),
      Room k (A.deeper (envOfC qual (defScope st) s.heap.objs.size f cdv)) → A.guards = some [] → sp vs H Q E →
      ∃ t, PSs (cxOf CX0 P w K mg base N qual (defScope st) f cdv A outer s H E).nox (defBody st) t ∧
        t { nx := fun _ H' => Q .non H', rt := Q } (start N vs) H) :
    FnG P w K mg base CX0 (k + 1) f fd ps sp := by
  obtain ⟨oc, od, kV, doc, pm, an, cdv, ct, osl, rfl, lk, hcd⟩ := F.ex
  refine ⟨len, fun A outer s H args us vs Q E hr hgd e0 hb r hsp => ?_⟩
  have hroomy := hr.depth
  have KX : K.In s.heap := e0.mod.kin.keeps fun b o e => (e0.bs b o e).1
  have lim : s.heap.NoLimit := e0.mod.nolimit.keeps fun b o e => (e0.bs b o e).1
  have hkd : ∀ y ∈ ps.zip us, (defScope st).names.lookup y.1 = some .local ∨
      ((defScope st).names.lookup y.1 = some .cell ∧
        ((cellsFrom (s.heap.objs.size + 1) (defScope st).names []).lookup y.1).isSome = true) := by
    rintro ⟨n, v⟩ hy
    have hn := (List.of_mem_zip hy).1
    cases S.par n hn with
    | inl q => exact Or.inl q
    | inr q => exact Or.inr ⟨q, PySem.W.cellsFrom_some _ _ _ (Or.inl q)⟩
  refine codeAny_call_function hroomy (KX _ _ lk) rfl S.co S.gen rfl (PySem.W.codeRec_of KX hcd)
    (hb _ _ _ _ (wpAny_newFunctionEnv_cells S.kind hkd fun env he s1 xx => ?_))
  subst he
  refine ⟨lim.keeps xx.toInCall.keep, codeAny_func ?_⟩
  obtain ⟨t, ht, hq⟩ := hbody cdv A outer s H vs Q E (hr.deeper _) hgd hsp
  have I : Inv (cxOf CX0 P w K mg base N qual (defScope st) f cdv A outer s H E) [] (start N vs) H s1 :=
    inv_start S hr.hd e0 (len _ _ _ _ hsp) r xx
  refine wpAny_mono (ht.nox.run [] s1 (start N vs) H _ I hq) (fun fl s' hs => ?_) fun e s' hs => hs
  match fl, hs with
  | .ret u, ⟨v, σ', H', J, rv, q⟩ => exact ⟨v, H', J.os, J.bare, J.base, J.hok, rv, q⟩
  | .next, ⟨σ', H', J, q⟩ => exact ⟨.non, H', J.os, J.bare, J.base, J.hok, rfl, q⟩
  | .brk, ⟨_, _, _, q⟩ => exact q.elim
  | .cont, ⟨_, _, _, q⟩ => exact q.elim
end
end J

set_option Elab.async false
set_option linter.all false
set_option maxRecDepth 100000
set_option maxHeartbeats 4000000
namespace J
open PySem L2 PyProof.Rows
section
variable {P : Program} {w : World} {K : PySem.W.Frag} {mg mb : Str → Option Value} {k : Nat}
  {fa a : Addr} {fd : FuncData} {x : Str} {sp : Sp} {s₁ : Shared} {vs : List Value} {ns : List Int}
def scriptO (vs : List Value) : Obj := { cls := .type "list", data := .seq vs.toArray }
/-- what is asked of the abstract heap at the law's entry -/
structure AtStart (P : Program) (w : World) (K : PySem.W.Frag) (s₁ : Shared) (a : Addr) (ns : List Int) (H : Hp) : Prop where
  only : Only H
  seq : SqL K H a (ns.map V.int)
  ok : HOk P w H s₁.heap
  at_a : ∀ b, H b ≠ none → b = a
  fr : H a ≠ none → K.lookup a = none
theorem start_any (KX : K.In s₁.heap) (ha : s₁.heap.get? a = some (scriptO vs)) (hi : IntsAre vs ns)
    (hl : ns.length ≤ sizeLine) : ∃ H, AtStart P w K s₁ a ns H := by
  have rv := vals_ints hi
  have hlen := hi.length
  cases hk : K.lookup a with
  | some o =>
    have e : o = scriptO vs := Option.some.inj ((KX a o hk).symm.trans ha)
    subst e
    refine ⟨fun _ => none, fun _ => .inl rfl, .inr ?_, fun b u z => (nomatch z), fun b z => absurd rfl z, fun z => absurd rfl z⟩
    exact ⟨_, vs.toArray, _, hk, rfl, rfl, rfl, by rw [List.size_toArray, hlen]; exact hl, by simpa using rv⟩
  | none =>
    have at1 : ∀ b, (if b = a then some (HO.frz (scriptO vs) (.lst (ns.map V.int))) else none) ≠ none → b = a := by
      intro b z
      by_cases hb : b = a
      · exact hb
      · rw [if_neg hb] at z
        exact absurd rfl z
    refine ⟨fun b => if b = a then some (.frz (scriptO vs) (.lst (ns.map V.int))) else none, fun b => ?_,
      .inl (.inr ⟨scriptO vs, if_pos rfl⟩), fun b u z => ?_, at1, fun _ => hk⟩
    · by_cases hb : b = a
      · exact .inr ⟨_, _, if_pos hb⟩
      · exact .inl (if_neg hb)
    · have hb : b = a := at1 b (by rw [z]; exact fun q => nomatch q)
      subst hb
      rw [if_pos rfl] at z
      cases z
      exact ⟨ha, by rw [List.length_map]; exact hl, vs, _, rv, ha⟩
theorem law_runG (KX : K.In s₁.heap) (hns : s₁.heap.Ns mainGlobals mg) (hb : s₁.heap.Ns builtinsNs mb)
    (hbb : ∀ x : Str, x ≠ "__name__" → mb x = bootBuiltins x) (hlim : s₁.heap.NoLimit) (hg : s₁.gens = #[])
    (ha : s₁.heap.get? a = some (scriptO vs)) (hi : IntsAre vs ns) (hl : ns.length ≤ sizeLine) (hr : Room k callerA)
    (F : ∀ base : Heap, K.In base → base.Ns mainGlobals mg → FnG P w K mg base CX0 k fa fd [x] sp)
    (hbind : ∀ (s : Shared) (u : Value), BindsTo s fd ⟨[u], []⟩ [(x, u)])
    (hsp : ∀ H : Hp, Only H → SqL K H a (ns.map V.int) → sp [.ref a] H (fun v _ => v = .bl true) fun _ _ _ => False) :
    codeAny (model P w) callerA (.call (.ref fa) ⟨[.ref a], []⟩)
      (fun r s' => r = .ok (.ret (.bool true)) ∧ OldK s₁.heap s'.heap ∧ s'.os = s₁.os ∧ AllBare s'.gens) s₁ := by
  obtain ⟨H, hO, hS, hok, hA, hK⟩ := start_any (P := P) (w := w) KX ha hi hl
  have bare_of {b : Addr} {o : Obj} {es : Array DictEntry} {ep : Nat} (e : s₁.heap.get? b = some o)
      (d : o.data = .dict es ep) : H b = none := Decidable.byContradiction fun q => by
    obtain rfl : b = a := hA b q
    rw [ha] at e
    cases e
    cases (show Data.seq vs.toArray _ = Data.dict es ep from d)
  have nsK {b : Addr} {m : Str → Option Value} (n : s₁.heap.Ns b m) : (hidT s₁.heap H).Ns b m := by
    obtain ⟨o, es, ep, e, d, r⟩ := n
    exact ⟨o, es, ep, hidT_get e (bare_of e d), d, r⟩
  have hKb : K.In (hidT s₁.heap H) := fun b o e => by
    refine hidT_get (KX b o e) (Decidable.byContradiction fun q => ?_)
    obtain rfl : b = a := hA b q
    rw [hK q] at e
    cases e
  obtain ⟨mc, l1, l2⟩ := hlim
  have hM : Mod K mg (hidT s₁.heap H) := ⟨hKb, nsK hns, ⟨mb, nsK hb, hbb⟩, ⟨mc, nsK l1, l2⟩⟩
  have nin : ∀ b : Addr, b ∉ frs ([] : List Env) := fun b z => absurd (show b ∈ ([] : List Addr) from z) (by simp)
  have e0 : Env0 P w K mg (hidT s₁.heap H) callerA [] s₁ H :=
    ⟨rfl, hM, fun b o e => of_hidT e, Nat.le_of_eq (hidT_size _ _), trivial, fun b z => absurd z (nin b), hok, .of_eq hg⟩
  have run := (F _ hKb (nsK hns)).run callerA [] s₁ H ⟨[.ref a], []⟩ [.ref a] [.ref a] _ _ hr rfl e0
    (hbind s₁ (.ref a)) (.cons rfl .nil) (hsp H hO hS)
  refine codeAny_mono run fun r s' h => ?_
  match r, h with
  | .error e, h => exact h.elim
  | .ok .next, h => exact h.elim
  | .ok .brk, h => exact h.elim
  | .ok .cont, h => exact h.elim
  | .ok (.ret u), ⟨v, H', os, bare, un, hok', r', q⟩ =>
    have q' : v = .bl true := q
    subst q'
    obtain rfl : u = Value.bool true := r'
    refine ⟨rfl, OldK.of_keep fun b o e => ?_, os, bare⟩
    rcases hO b with z | ⟨ob, xs, z⟩
    · exact un.keep b o e z (nin b) (by simp)
    · obtain ⟨e1, _⟩ := hok b _ z
      obtain ⟨e2, _⟩ := hok' b _ (un.frzs b ob _ z)
      rw [Option.some.inj (e.symm.trans e1)]
      exact e2
end
/-- the end of a law over FnG -/
theorem walk_ofG {l : PySem.W.OpenLaw} {n k : Nat} {q : Program} {loose : List Str}
    {XP : (Str → Option Value) → Heap → Prop} {YP : World → Heap → Prop} {d : DefRec}
    {K : Params → PySem.W.Frag} {sp : PySem.W.Frag → Sp} {x : Str}
    (hn : l.most = some n) (hn2 : n ≤ sizeLine) (hdf : d.params.defaults = []) (hr : Room k callerA)
    (hY : ∀ (w : World) (h : Heap), YP w h → (K w.params).In h)
    (F : ∀ (w : World) (mg : Str → Option Value) (fa : Addr) (h : Heap), (K w.params).In h → h.Ns mainGlobals mg →
      mg d.name = some (.ref fa) → ∃ fd : FuncData, (∀ (s : Shared) (u : Value), BindsTo s fd ⟨[u], []⟩ [(x, u)]) ∧
        ∀ base : Heap, (K w.params).In base → base.Ns mainGlobals mg →
          FnG l.prog w (K w.params) mg base CX0 k fa fd [x] (sp (K w.params)))
    (hsp : ∀ (K : PySem.W.Frag) (H : Hp) (a : Addr) (ns : List Int), ns.length ≤ n → Only H →
      SqL K H a (ns.map V.int) → sp K [.ref a] H (fun v _ => v = .bl true) fun _ _ _ => False) :
    PySem.W.WalkO q loose XP YP l.row.toRowW d [] (fun f vs => PySem.call f vs) := by
  refine Att.attach_call hn hdf fun w s₀ s₁ mg mb fa o pm cd doc a vs ns G Y ho hd hcd hmg hobj hints hlen hg => ?_
  have KX := hY w _ Y
  obtain ⟨fd, hb, hF⟩ := F w mg fa _ KX G.T.g hmg
  exact law_runG KX G.T.g G.T.b G.T.builtins G.T.nolimit hg hobj hints (Nat.le_trans hlen hn2) hr hF hb
    (fun H hO hS => hsp _ H a ns hlen hO hS)
end J

set_option Elab.async false
set_option linter.all false
set_option maxRecDepth 100000
set_option maxHeartbeats 4000000
namespace J
open PySem L2 PyProof.Rows

/-! ### frames -/
def Imm : HO → Prop
  | .tup _ => True
  | .frz _ _ => True
  | _ => False
/-- all but what stands at the addresses S is as it was; tuples and locked things stay in any case -/
structure But (S : List Addr) (H H' : Hp) : Prop where
  keep : ∀ b o, H b = some o → b ∉ S → H' b = some o
  imm : ∀ b o, H b = some o → Imm o → H' b = some o
  live : ∀ b, H b ≠ none → H' b ≠ none
section
variable {S T : List Addr} {H H' H1 H2 : Hp} {a b p : Addr} {o o' : HO} {K : PySem.W.Frag} {xs : List V}
theorem But.refl : But S H H := ⟨fun _ _ e _ => e, fun _ _ e _ => e, fun _ e => e⟩
theorem But.trans (h : But S H H1) (h' : But S H1 H2) : But S H H2 :=
  ⟨fun b o e n => h'.keep b o (h.keep b o e n) n, fun b o e i => h'.imm b o (h.imm b o e i) i, fun b e => h'.live b (h.live b e)⟩
theorem But.sub (h : But S H H') (hs : ∀ s ∈ S, s ∈ T) : But T H H' :=
  ⟨fun b o e n => h.keep b o e fun z => n (hs b z), h.imm, h.live⟩
theorem But.of_same (h : Same H H') : But S H H' := ⟨fun b o e _ => h b o e, fun b o e _ => h b o e, fun b e => by
  cases q : H b with
  | none => exact absurd q e
  | some o => rw [h b o q]; exact fun z => nomatch z⟩
theorem But.same (h : But [] H H') : Same H H' := fun b o e => h.keep b o e (by simp)
theorem But.new (h : H p = none) : But S H (upd H p o) := But.of_same fun b u e => by
  rw [upd_ne (ne_of_none e h)]; exact e
theorem But.write (h : H p = some o) (ni : ¬ Imm o) (hp : p ∈ S) : But S H (upd H p o') :=
  ⟨fun b u e n => by rw [upd_ne (fun z : b = p => n (by rw [z]; exact hp))]; exact e,
   fun b u e i => by
    have hb : b ≠ p := fun z => by subst z; rw [h] at e; cases e; exact ni i
    rw [upd_ne hb]; exact e,
   fun b e => by
    by_cases hb : b = p
    · rw [hb, upd_same]; exact fun z => nomatch z
    · rw [upd_ne hb]; exact e⟩
theorem But.drop (h : But (p :: S) H H') (hp : H p = none) : But S H H' :=
  ⟨fun b o e n => h.keep b o e fun z => (List.mem_cons.mp z).elim (fun q => ne_of_none e hp q) n, h.imm, h.live⟩
theorem But.at (h : But S H H') (e : H a = some o) (n : a ∉ S) : H' a = some o := h.keep a o e n
theorem But.tup (h : But S H H') (e : H a = some (.tup xs)) : H' a = some (.tup xs) := h.imm a _ e trivial
theorem But.free (h : But S H H') (e : H' p = none) : H p = none := Decidable.byContradiction fun q => h.live p q e
theorem But.rdT (h : But S H H') (e : Rd H a (.tup xs)) : Rd H' a (.tup xs) := by
  rcases e with e | ⟨o, e⟩
  · exact .inl (h.imm _ _ e trivial)
  · exact .inr ⟨o, h.imm _ _ e trivial⟩
theorem But.sqT (h : But S H H') (e : SqT K H a xs) : SqT K H' a xs := e.imp h.rdT id
theorem But.rdL (h : But S H H') (e : Rd H a (.lst xs)) (n : a ∉ S) : Rd H' a (.lst xs) := by
  rcases e with e | ⟨o, e⟩
  · exact .inl (h.keep _ _ e n)
  · exact .inr ⟨o, h.imm _ _ e trivial⟩
theorem But.sqL (h : But S H H') (e : SqL K H a xs) (n : a ∉ S) : SqL K H' a xs := e.imp (fun z => h.rdL z n) id
theorem live_of (e : H a = some o) : H a ≠ none := by rw [e]; exact fun z => nomatch z
/-- a store, its heap by a name -/
theorem upd_ex (h : H p = some (.lst xs)) {o' : HO} : ∃ H', upd H p o' = H' ∧ But [p] H H' ∧ H' p = some o' :=
  ⟨_, rfl, But.write h (fun z => z) (by simp), upd_same⟩
theorem upd_exD {kvs : List (Key × V)} (h : H p = some (.dK kvs)) {o' : HO} : ∃ H', upd H p o' = H' ∧ But [p] H H' ∧ H' p = some o' :=
  ⟨_, rfl, But.write h (fun z => z) (by simp), upd_same⟩
theorem upd_exI {C dx : Addr} {fs : List (Str × V)} (h : H p = some (.ins C dx fs)) {o' : HO} : ∃ H', upd H p o' = H' ∧ But [p] H H' ∧ H' p = some o' :=
  ⟨_, rfl, But.write h (fun z => z) (by simp), upd_same⟩
/-- the addresses are in use -/
def Live (S : List Addr) (H : Hp) : Prop := ∀ s ∈ S, H s ≠ none
theorem Live.nil : Live [] H := fun _ z => nomatch z
theorem Live.cons (e : H a = some o) (h : Live S H) : Live (a :: S) H := fun s hs =>
  (List.mem_cons.mp hs).elim (fun q => by rw [q]; exact live_of e) (h s)
theorem Live.but (h : Live S H) (b : But T H H') : Live S H' := fun s hs => b.live s (h s hs)
theorem Live.ne (h : Live S H) (e : H p = none) : p ∉ S := fun z => h p z e
end

section
variable {S T : List Addr} {H H' H1 : Hp} {a b : Addr} {o : HO} {xs : List V} {K : PySem.W.Frag}
theorem ni_cons (h : a ≠ b) (h' : a ∉ S) : a ∉ b :: S := fun z => (List.mem_cons.mp z).elim h h'
theorem same_at (h : Same H H') (e : H a = some o) : H' a = some o := h a o e
theorem but_at (h : But S H H') (e : H a = some o) (n : a ∉ S) : H' a = some o := h.keep a o e n
theorem but_tup (h : But S H H') (e : H a = some (.tup xs)) : H' a = some (.tup xs) := h.tup e
theorem same_sqL (h : Same H H') (e : SqL K H a xs) : SqL K H' a xs := h.seq e
theorem same_sqT (h : Same H H') (e : SqT K H a xs) : SqT K H' a xs := (But.of_same (S := []) h).sqT e
theorem but_sqT (h : But S H H') (e : SqT K H a xs) : SqT K H' a xs := h.sqT e
theorem but_sqL (h : But S H H') (e : SqL K H a xs) (n : a ∉ S) : SqL K H' a xs := h.sqL e n
theorem lv_same (b : Same H H') (h : H a ≠ none) : H' a ≠ none := (But.of_same (S := []) b).live a h
theorem lv_but (b : But S H H') (h : H a ≠ none) : H' a ≠ none := b.live a h
theorem ne_live (h : H a ≠ none) (e : H b = none) : b ≠ a := fun z => h (z ▸ e)
/-- what was in use is in use -/
def Le (H H' : Hp) : Prop := ∀ b, H b ≠ none → H' b ≠ none
theorem Le.refl : Le H H := fun _ h => h
theorem le_same (h : Le H H1) (b : Same H1 H') : Le H H' := fun a e => (But.of_same (S := []) b).live a (h a e)
theorem le_but (h : Le H H1) (b : But T H1 H') : Le H H' := fun a e => b.live a (h a e)
theorem fr_le (h : Le H H') (e : H' a = none) : H a = none := Decidable.byContradiction fun q => h a q e
theorem bt_same (h : But S H H1) (b : Same H1 H') : But S H H' := h.trans (But.of_same b)
theorem bt_but (h : But S H H1) (b : But T H1 H') (c : ∀ t ∈ T, t ∈ S ∨ H t = none) : But S H H' :=
  ⟨fun x o e n => b.keep x o (h.keep x o e n) fun z => (c x z).elim n (fun q => ne_of_none e q rfl),
   fun x o e i => b.imm x o (h.imm x o e i) i, fun x e => b.live x (h.live x e)⟩
theorem sub_nil : ∀ s ∈ ([] : List Addr), s ∈ S := fun _ z => nomatch z
theorem sub_cons (h : a ∈ S) (k : ∀ s ∈ T, s ∈ S) : ∀ s ∈ a :: T, s ∈ S := fun t z => (List.mem_cons.mp z).elim (fun q => q ▸ h) (k t)
theorem bc_nil : ∀ t ∈ ([] : List Addr), t ∈ S ∨ H t = none := fun _ z => nomatch z
theorem bc_in (h : a ∈ S) (k : ∀ t ∈ T, t ∈ S ∨ H t = none) : ∀ t ∈ a :: T, t ∈ S ∨ H t = none :=
  fun t z => (List.mem_cons.mp z).elim (fun q => .inl (q ▸ h)) (k t)
theorem bc_fr (h : H a = none) (k : ∀ t ∈ T, t ∈ S ∨ H t = none) : ∀ t ∈ a :: T, t ∈ S ∨ H t = none :=
  fun t z => (List.mem_cons.mp z).elim (fun q => .inr (q ▸ h)) (k t)
end
/-! ### data: none of its lists is one of S -/
mutual
inductive Dn (K : PySem.W.Frag) (S : List Addr) (H : Hp) : V → PyData → Prop
  | non : Dn K S H .non .none
  | bl (b : Bool) : Dn K S H (.bl b) (.bool b)
  | int (i : Int) : Dn K S H (.int i) (.int i)
  | str (x : Str) : Dn K S H (.str x) (.str x)
  | lst {a : Addr} {xs : List V} {ds : List PyData} : H a = some (.lst xs) → a ∉ S → DnAll K S H xs ds → Dn K S H (.ref a) (.list ds)
  | tup {a : Addr} {xs : List V} {ds : List PyData} : SqT K H a xs → DnAll K S H xs ds → Dn K S H (.ref a) (.tuple ds)
inductive DnAll (K : PySem.W.Frag) (S : List Addr) (H : Hp) : List V → List PyData → Prop
  | nil : DnAll K S H [] []
  | cons {v : V} {vs : List V} {d : PyData} {ds : List PyData} : Dn K S H v d → DnAll K S H vs ds → DnAll K S H (v :: vs) (d :: ds)
end
section
variable {S T : List Addr} {H H' : Hp} {K : PySem.W.Frag} {v : V} {d : PyData} {vs ws : List V} {ds es : List PyData}
theorem Dn.map (hl : ∀ a xs, H a = some (.lst xs) → a ∉ S → H' a = some (.lst xs) ∧ a ∉ T) (ht : ∀ a xs, SqT K H a xs → SqT K H' a xs)
    (h : Dn K S H v d) : Dn K T H' v d := by
  refine Dn.rec (motive_1 := fun v d _ => Dn K T H' v d) (motive_2 := fun vs ds _ => DnAll K T H' vs ds) ?_ ?_ ?_ ?_ ?_ ?_ ?_ ?_ h
  · exact .non
  · exact .bl
  · exact .int
  · exact .str
  · intro a xs ds h1 h2 _ h4
    obtain ⟨q1, q2⟩ := hl a xs h1 h2
    exact .lst q1 q2 h4
  · intro a xs ds h1 _ h3
    exact .tup (ht a xs h1) h3
  · exact .nil
  · intro v vs d ds _ _ h1 h2
    exact .cons h1 h2
theorem DnAll.each (f : ∀ v d, Dn K S H v d → Dn K T H' v d) : ∀ {vs : List V} {ds : List PyData}, DnAll K S H vs ds → DnAll K T H' vs ds
  | _, _, .nil => .nil
  | _, _, .cons h t => .cons (f _ _ h) (DnAll.each f t)
theorem Dn.but (b : But T H H') (h : Dn K S H v d) (hs : ∀ s ∈ T, s ∈ S) : Dn K S H' v d :=
  h.map (fun _ _ r n => ⟨b.at r fun z => n (hs _ z), n⟩) fun _ _ r => b.sqT r
theorem Dn.same (b : Same H H') (h : Dn K S H v d) : Dn K S H' v d := h.but (But.of_same (S := []) b) (by simp)
theorem Dn.sub (h : Dn K S H v d) (hs : ∀ s ∈ T, s ∈ S) : Dn K T H v d := h.map (fun _ _ r n => ⟨r, fun z => n (hs _ z)⟩) fun _ _ r => r
theorem rd_live {a : Addr} {u : HO} (r : Rd H a u) : H a ≠ none := by
  rcases r with r | ⟨o, r⟩ <;> rw [r] <;> exact fun z => nomatch z
theorem Dn.fresh {p : Addr} (h : Dn K S H v d) (hp : H p = none) : Dn K (p :: S) H v d :=
  h.map (fun a _ r n => ⟨r, fun z => (List.mem_cons.mp z).elim (fun q => live_of r (q ▸ hp)) n⟩) fun _ _ r => r
theorem DnAll.but (b : But T H H') (h : DnAll K S H vs ds) (hs : ∀ s ∈ T, s ∈ S) : DnAll K S H' vs ds := h.each fun _ _ q => q.but b hs
theorem DnAll.same (b : Same H H') (h : DnAll K S H vs ds) : DnAll K S H' vs ds := h.each fun _ _ q => q.same b
theorem DnAll.sub (h : DnAll K S H vs ds) (hs : ∀ s ∈ T, s ∈ S) : DnAll K T H vs ds := h.each fun _ _ q => q.sub hs
theorem DnAll.fresh {p : Addr} (h : DnAll K S H vs ds) (hp : H p = none) : DnAll K (p :: S) H vs ds := h.each fun _ _ q => q.fresh hp
theorem DnAll.append : ∀ {vs : List V} {ds : List PyData}, DnAll K S H vs ds → DnAll K S H ws es → DnAll K S H (vs ++ ws) (ds ++ es)
  | _, _, .nil, h => h
  | _, _, .cons h t, h' => .cons h (DnAll.append t h')
theorem DnAll.snoc (h : DnAll K S H vs ds) (h' : Dn K S H v d) : DnAll K S H (vs ++ [v]) (ds ++ [d]) := h.append (.cons h' .nil)
theorem DnAll.length : ∀ {vs : List V} {ds : List PyData}, DnAll K S H vs ds → vs.length = ds.length
  | _, _, .nil => rfl
  | _, _, .cons _ t => congrArg (· + 1) (DnAll.length t)
theorem DnAll.get : ∀ {vs : List V} {ds : List PyData} {i : Nat} {x : V}, DnAll K S H vs ds → vs[i]? = some x → ∃ d, ds[i]? = some d ∧ Dn K S H x d
  | _, _, _, _, .nil, e => by simp at e
  | _, _, 0, _, .cons h _, e => by
    obtain rfl : _ = _ := Option.some.inj e
    exact ⟨_, rfl, h⟩
  | _, _, i + 1, x, .cons _ t, e => by
    obtain ⟨d, h1, h2⟩ := DnAll.get (i := i) t (by simpa using e)
    exact ⟨d, by simpa using h1, h2⟩
theorem DnAll.getD : ∀ {vs : List V} {ds : List PyData} {i : Nat} {d : PyData}, DnAll K S H vs ds → ds[i]? = some d → ∃ x, vs[i]? = some x ∧ Dn K S H x d
  | _, _, _, _, .nil, e => by simp at e
  | _, _, 0, _, .cons h _, e => by
    obtain rfl : _ = _ := Option.some.inj e
    exact ⟨_, rfl, h⟩
  | _, _, i + 1, x, .cons _ t, e => by
    obtain ⟨d, h1, h2⟩ := DnAll.getD (i := i) t (by simpa using e)
    exact ⟨d, by simpa using h1, h2⟩
theorem DnAll.drop : ∀ {vs : List V} {ds : List PyData} (n : Nat), DnAll K S H vs ds → DnAll K S H (vs.drop n) (ds.drop n)
  | _, _, 0, h => h
  | _, _, _ + 1, .nil => .nil
  | _, _, n + 1, .cons _ t => DnAll.drop n t
theorem DnAll.take : ∀ {vs : List V} {ds : List PyData} (n : Nat), DnAll K S H vs ds → DnAll K S H (vs.take n) (ds.take n)
  | _, _, 0, _ => .nil
  | _, _, _ + 1, .nil => .nil
  | _, _, n + 1, .cons h t => .cons h (DnAll.take n t)
theorem DnAll.ints : ∀ {ns : List Int}, DnAll K S H (ns.map V.int) (ns.map PyData.int)
  | [] => .nil
  | _ :: _ => .cons (.int _) DnAll.ints
theorem DnAll.ints_of : ∀ {vs : List V} {ns : List Int}, DnAll K S H vs (ns.map PyData.int) → vs = ns.map V.int
  | _, [], .nil => rfl
  | _, _ :: _, .cons h t => by
    cases h
    exact congrArg _ (DnAll.ints_of t)
theorem DnAll.one (h : Dn K S H v d) : DnAll K S H [v] [d] := .cons h .nil
theorem Dn.dp (h : Dn K S H v d) : Dp K H v d := by
  refine Dn.rec (motive_1 := fun v d _ => Dp K H v d) (motive_2 := fun vs ds _ => DpAll K H vs ds) ?_ ?_ ?_ ?_ ?_ ?_ ?_ ?_ h
  · exact .non
  · exact .bl
  · exact .int
  · exact .str
  · intro a xs ds h1 _ _ h4
    exact .lst (SqL.of h1) h4
  · intro a xs ds h1 _ h3
    exact .tup h1 h3
  · exact .nil
  · intro v vs d ds _ _ h1 h2
    exact .cons h1 h2
end
end J

set_option Elab.async false
set_option linter.all false
set_option maxRecDepth 100000
set_option maxHeartbeats 4000000
namespace J
open PySem L2 PyProof.Rows

/-! ### operators whatever the values' kinds -/
def rCatS : R2 := fun x y H Q => ∃ i j, x = .str i ∧ y = .str j ∧ i.length + j.length ≤ sizeLine ∧ Q (.str (i ++ j)) H
def rAddA (K : PySem.W.Frag) : R2 := fun x y H Q => rI0 (fun i j => .int (i + j)) x y H Q ∨ (rCatS x y H Q ∨ (rCat x y H Q ∨ rCatA K x y H Q))
def rMulA (K : PySem.W.Frag) : R2 := fun x y H Q => rI CMul (fun i j => .int (i * j)) x y H Q ∨ (rRep x y H Q ∨ rRepT K x y H Q)
def rEqA (K : PySem.W.Frag) : R2 := fun x y H Q => rEq x y H Q ∨ rEqD K x y H Q
def rNeA (K : PySem.W.Frag) : R2 := fun x y H Q => rNe x y H Q ∨ rNeD K x y H Q
def rLtS : R2 := fun x y H Q => ∃ i j, x = .str i ∧ y = .str j ∧ Q (.bl (decide (i.cps.toList < j.cps.toList))) H
def rLtA : R2 := fun x y H Q => rI0 (fun i j => .bl (decide (i < j))) x y H Q ∨ rLtS x y H Q
/-- in a tuple of data -/
def rInDT (K : PySem.W.Frag) : R2 := fun x y H Q => ∃ d ds, Dp K H x d ∧ Dp K H y (.tuple ds) ∧ SeqAt.shaped d = true ∧ SeqAt.shaped (.tuple ds) = true ∧ Q (.bl (ds.any fun z => PyData.eqv z d)) H
def rNiDT (K : PySem.W.Frag) : R2 := fun x y H Q => ∃ d ds, Dp K H x d ∧ Dp K H y (.tuple ds) ∧ SeqAt.shaped d = true ∧ SeqAt.shaped (.tuple ds) = true ∧ Q (.bl (!ds.any fun z => PyData.eqv z d)) H
theorem op_inDT {X : Cx} (hu : X.A.units + 65 < cLine) : OpR X (compareOp .In) (rInDT X.K) := by
  rintro pins s σ H x y v u Q I rx ry ⟨d, ds, hd, he, sd, se, q⟩
  obtain ⟨_, r1⟩ := Dp.reads I d x v hd rx
  obtain ⟨_, r2⟩ := Dp.reads I (.tuple ds) y u he ry
  refine SeqAt.in_tuple_reads r2 r1 (SeqAt.canLay_of_shaped se) (SeqAt.canLay_of_shaped sd) ?_ ⟨.bl _, H, I, rfl, q⟩
  have := SeqAt.depth_of_shaped sd
  omega
theorem op_niDT {X : Cx} (hu : X.A.units + 65 < cLine) : OpR X (compareOp .NotIn) (rNiDT X.K) := by
  rintro pins s σ H x y v u Q I rx ry ⟨d, ds, hd, he, sd, se, q⟩
  obtain ⟨_, r1⟩ := Dp.reads I d x v hd rx
  obtain ⟨_, r2⟩ := Dp.reads I (.tuple ds) y u he ry
  refine SeqAt.notIn_tuple_reads r2 r1 (SeqAt.canLay_of_shaped se) (SeqAt.canLay_of_shaped sd) ?_ ⟨.bl _, H, I, rfl, q⟩
  have := SeqAt.depth_of_shaped sd
  omega
def rInA (K : PySem.W.Frag) : R2 := fun x y H Q => rIn K false x y H Q ∨ (rInD K x y H Q ∨ rInDT K x y H Q)
def rNiA (K : PySem.W.Frag) : R2 := fun x y H Q => rIn K true x y H Q ∨ (rNotInD K x y H Q ∨ rNiDT K x y H Q)
def rIadd : R2 := fun x y H Q => rI0 (fun i j => .int (i + j)) x y H Q ∨ (rCatS x y H Q ∨ rExt2 x y H Q)
theorem units65 {k : Nat} {A : Around} (r : Room k A) : A.units + 65 < cLine := by have := r.un; omega
def rLenA (K : PySem.W.Frag) : List V → Hp → VK → Prop := fun xs H Q => ∃ x n, xs = [x] ∧ LenV K x H n ∧ Q (.int n) H
def rListA (K : PySem.W.Frag) : List V → Hp → VK → Prop := fun xs H Q => ∃ p ys, xs = [.ref p] ∧ (SqL K H p ys ∨ SqT K H p ys) ∧ ∀ l, H l = none → Q (.ref l) (upd H l (.lst ys))
def rTupA (K : PySem.W.Frag) : List V → Hp → VK → Prop := fun xs H Q => ∃ p ys, xs = [.ref p] ∧ ((SqL K H p ys ∧ ∀ l, H l = none → Q (.ref l) (upd H l (.tup ys))) ∨ (SqT K H p ys ∧ Q (.ref p) H))
def tTruA (K : PySem.W.Frag) (ta : TE) : TT := fun σ H R => ta σ H fun x H' => ∃ k, TruV K x H' k ∧ R k H'
def rSlAny (K : PySem.W.Frag) : V → Option Int → Option Int → Hp → VK → Prop := fun x lo hi H Q => rSlL K x lo hi H Q ∨ rSlA K x lo hi H Q
section
variable {X : Cx} {K : PySem.W.Frag}
theorem op_addA (e : X.K = K := by rfl) : OpR X (binaryOp .Add) (rAddA K) := by
  subst e; exact OpR.or op_add (OpR.or op_add_str (OpR.or op_cat op_catA))
theorem op_mulA (e : X.K = K := by rfl) : OpR X (binaryOp .Mult) (rMulA K) := by
  subst e; exact OpR.or op_mul (OpR.or op_rep op_repT)
theorem op_eqA (hu : X.A.units + 64 < cLine) (e : X.K = K := by rfl) : OpR X (compareOp .Eq) (rEqA K) := by
  subst e; exact OpR.or op_eq (op_eqD hu)
theorem op_neA (hu : X.A.units + 64 < cLine) (e : X.K = K := by rfl) : OpR X (compareOp .NotEq) (rNeA K) := by
  subst e; exact OpR.or op_ne (op_neD hu)
theorem op_ltA : OpR X (compareOp .Lt) rLtA := OpR.or op_lt op_lt_str
theorem op_inA (hu : X.A.units + 65 < cLine) (e : X.K = K := by rfl) : OpR X (compareOp .In) (rInA K) := by
  subst e; exact OpR.or op_in_seq (OpR.or (op_inD hu) (op_inDT hu))
theorem op_niA (hu : X.A.units + 65 < cLine) (e : X.K = K := by rfl) : OpR X (compareOp .NotIn) (rNiA K) := by
  subst e; exact OpR.or op_notIn_seq (OpR.or (op_notInD hu) (op_niDT hu))
theorem ip_addA : PIp X .Add rIadd := OpR.or (f := inplaceOp .Add) iop_add (OpR.or (f := inplaceOp .Add) iop_add_str iop_ext)
theorem ip_subA : PIp X .Sub (rI0 fun i j => .int (i - j)) := iop_sub
theorem ix_any (e : X.K = K := by rfl) : IxR X (rIx K) := by subst e; exact ix_seq
theorem sl_any (e : X.K = K := by rfl) : SlR X (rSlAny K) := by subst e; exact SlR.or sl_list sl_tupA
theorem call_lenA (e : X.K = K := by rfl) : CallR X (.builtin "len") (rLenA K) := by subst e; exact call_len
theorem call_listA (e : X.K = K := by rfl) : CallR X (.type "list") (rListA K) := by subst e; exact call_list_of
theorem call_tupleA (e : X.K = K := by rfl) : CallR X (.type "tuple") (rTupA K) := by subst e; exact call_tuple_of
theorem call_reprA (hg : X.A.guards = some []) (hu : X.A.units + 64 < cLine) (e : X.K = K := by rfl) :
    CallR X (.builtin "repr") (rRepr K) := by subst e; exact call_reprD hg hu
theorem call_sortedPA (e : X.K = K := by rfl) : CallR X (.builtin "sorted") (rSortedPO K) := by subst e; exact cr_sortedPO
theorem call_sortedIA (e : X.K = K := by rfl) : CallR X (.builtin "sorted") (rSortedI K) := by subst e; exact cr_sortedI
theorem call_sumA (hc : X.calm = true) (e : X.K = K := by rfl) : CallR X (.builtin "sum") (rSum K) := by subst e; exact cr_sum hc
theorem call_allA (hc : X.calm = true) (e : X.K = K := by rfl) : CallR X (.builtin "all") (rAll K) := by subst e; exact cr_all hc
theorem call_anyA (hc : X.calm = true) (e : X.K = K := by rfl) : CallR X (.builtin "any") (rAny K) := by subst e; exact cr_any hc
theorem pi_lst {tg l : Expr} {tl : TE} (hl : PE X l tl) (e : X.K = K := by rfl) : PI X tg l (iList K tl) := by subst e; exact pi_list hl
theorem pi_tpl {tg l : Expr} {tl : TE} (hl : PE X l tl) (e : X.K = K := by rfl) : PI X tg l (iTup K tl) := by subst e; exact pi_tup hl
theorem pe_fldA {x : Expr} {ta : TE} {f : Str} {pos : Pos} (he : PE X x ta) (hb : attributeBase x f X.env (eval x X.env) = eval x X.env := by rfl)
    (e : X.K = K := by rfl) : PE X (.Attribute x f pos) (tFld K ta f) := by subst e; exact pe_fld he hb
theorem pt_tru {a : Expr} {ta : TE} (ha : PE X a ta) (he : ∀ whole, isTrue a X.env whole = (do let v ← whole; standAt a.pos; holding [v] (truthy v)) := by intro _; rfl)
    (e : X.K = K := by rfl) : PT X a (tTruA K ta) := by subst e; exact pt_truth ha he
theorem pg_tpl {es : List Expr} {k n : Nat} {t : TGs} {pos : Pos} (hc : X.calm = true) (h : PGs X es t)
    (hn : (assignEach es X.env).length = n := by rfl) (hst : (assignEach es X.env).findIdx? (·.1) = none := by rfl)
    (e : X.K = K := by rfl) : PG X (.Tuple es k pos) (gTup K n t) := by subst e; exact pg_tup hc h hn hst
end

section
variable {σ : L2.St} {H H' H1 : Hp} {K : PySem.W.Frag} {Q : VK} {i j : Int} {n : Nat} {v x y : V} {te ta tb : TE} {p q : Addr} {xs ys : List V}
  {D : Ends} {t u : TS} {R : Bool → Hp → Prop}
/-! ### expressions -/
theorem r_var (h : σ[n]? = some (some v)) (k : Q v H) : tVar n σ H Q := ⟨v, h, k⟩
theorem r_c (k : Q v H) : tC v σ H Q := k
theorem r_op {r : R2} (k : ta σ H fun x H1 => tb σ H1 fun y H2 => r x y H2 Q) : tOp r ta tb σ H Q := k
theorem r_un {r : V → Hp → VK → Prop} (k : ta σ H fun x H1 => r x H1 Q) : tUn r ta σ H Q := k
theorem r_I0 {g : Int → Int → V} (k : Q (g i j) H) : rI0 g (.int i) (.int j) H Q := ⟨i, j, rfl, rfl, k⟩
theorem r_I {C : Int → Int → Prop} {g : Int → Int → V} (c : C i j) (k : Q (g i j) H) : rI C g (.int i) (.int j) H Q := ⟨i, j, rfl, rfl, c, k⟩
theorem r_U {g : Int → V} (k : Q (g i) H) : rU g (.int i) H Q := ⟨i, rfl, k⟩
theorem r_addI (k : Q (.int (i + j)) H) : rAddA K (.int i) (.int j) H Q := .inl ⟨i, j, rfl, rfl, k⟩
theorem r_addS {a b : Str} (c : a.length + b.length ≤ sizeLine) (k : Q (.str (a ++ b)) H) : rAddA K (.str a) (.str b) H Q := .inr (.inl ⟨a, b, rfl, rfl, c, k⟩)
theorem r_addL (h1 : H p = some (.lst xs)) (h2 : H q = some (.lst ys)) (c : xs.length + ys.length ≤ sizeLine)
    (k : ∀ l H', H l = none → Same H H' → H' l = some (.lst (xs ++ ys)) → Q (.ref l) H') : rAddA K (.ref p) (.ref q) H Q :=
  .inr (.inr (.inl ⟨p, q, xs, ys, rfl, rfl, h1, h2, c, fun l hl => k l _ hl (But.new (S := []) hl).same upd_same⟩))
theorem r_mulI (c : CMul i j) (k : Q (.int (i * j)) H) : rMulA K (.int i) (.int j) H Q := .inl ⟨i, j, rfl, rfl, c, k⟩
theorem mulL (h : -(2 ^ 64) < i) (h' : i < 2 ^ 64) : CMul i j := .inl ⟨h, h'⟩
theorem mulR (h : -(2 ^ 64) < j) (h' : j < 2 ^ 64) : CMul i j := .inr ⟨h, h'⟩
theorem dec_int : decide (V.int i = V.int j) = decide (i = j) := by
  by_cases h : i = j
  · subst h; simp
  · rw [decide_eq_false h, decide_eq_false fun z => h (V.int.inj z)]
theorem dec_str {a b : Str} : decide (V.str a = V.str b) = decide (a = b) := by
  by_cases h : a = b
  · subst h; simp
  · rw [decide_eq_false h, decide_eq_false fun z => h (V.str.inj z)]
theorem dec_bl {a b : Bool} : decide (V.bl a = V.bl b) = decide (a = b) := by
  by_cases h : a = b
  · subst h; simp
  · rw [decide_eq_false h, decide_eq_false fun z => h (V.bl.inj z)]
theorem r_eqI (k : Q (.bl (decide (i = j))) H) : rEqA K (.int i) (.int j) H Q := .inl ⟨rfl, by rw [dec_int]; exact k⟩
theorem r_eqS {a b : Str} (k : Q (.bl (decide (a = b))) H) : rEqA K (.str a) (.str b) H Q := .inl ⟨rfl, by rw [dec_str]; exact k⟩
theorem r_eqB {a b : Bool} (k : Q (.bl (decide (a = b))) H) : rEqA K (.bl a) (.bl b) H Q := .inl ⟨rfl, by rw [dec_bl]; exact k⟩
theorem r_eqD {d e : PyData} (h1 : Dp K H x d) (h2 : Dp K H y e) (s1 : SeqAt.shaped d = true) (s2 : SeqAt.shaped e = true) (k : Q (.bl (PyData.eqv d e)) H) : rEqA K x y H Q :=
  .inr ⟨d, e, h1, h2, s1, s2, k⟩
theorem r_neI (k : Q (.bl (!decide (i = j))) H) : rNeA K (.int i) (.int j) H Q := .inl ⟨rfl, by rw [dec_int]; exact k⟩
theorem r_neS {a b : Str} (k : Q (.bl (!decide (a = b))) H) : rNeA K (.str a) (.str b) H Q := .inl ⟨rfl, by rw [dec_str]; exact k⟩
theorem r_neB {a b : Bool} (k : Q (.bl (!decide (a = b))) H) : rNeA K (.bl a) (.bl b) H Q := .inl ⟨rfl, by rw [dec_bl]; exact k⟩
theorem r_neD {d e : PyData} (h1 : Dp K H x d) (h2 : Dp K H y e) (s1 : SeqAt.shaped d = true) (s2 : SeqAt.shaped e = true) (k : Q (.bl (!PyData.eqv d e)) H) : rNeA K x y H Q :=
  .inr ⟨d, e, h1, h2, s1, s2, k⟩
theorem r_ltI (k : Q (.bl (decide (i < j))) H) : rLtA (.int i) (.int j) H Q := .inl ⟨i, j, rfl, rfl, k⟩
theorem r_ltS {a b : Str} (k : Q (.bl (decide (a.cps.toList < b.cps.toList))) H) : rLtA (.str a) (.str b) H Q := .inr ⟨a, b, rfl, rfl, k⟩
/-- i in ints -/
theorem inV_int {ns : List Int} {i : Int} : inV (.int i) (ns.map V.int) = decide (i ∈ ns) := by
  unfold inV
  induction ns with
  | nil => rfl
  | cons a l ih =>
    rw [List.map_cons, List.any_cons, ih]
    have e : eqV (V.int a) (V.int i) = decide (a = i) := Bool.beq_eq_decide_eq a i
    rw [e, ← Bool.decide_or]
    exact decide_eq_decide.mpr (by rw [List.mem_cons, eq_comm])
theorem flat_ints (ns : List Int) : (ns.map V.int).all flatV = true := by
  rw [List.all_eq_true]
  intro v hv
  obtain ⟨i, _, rfl⟩ := List.mem_map.mp hv
  rfl
theorem r_inL {ns : List Int} (h : SqL K H p (ns.map V.int)) (k : Q (.bl (decide (i ∈ ns))) H) : rInA K (.int i) (.ref p) H Q :=
  .inl ⟨p, _, rfl, .inl h, rfl, flat_ints ns, by rw [inV_int]; exact k⟩
theorem r_inT {ns : List Int} (h : SqT K H p (ns.map V.int)) (k : Q (.bl (decide (i ∈ ns))) H) : rInA K (.int i) (.ref p) H Q :=
  .inl ⟨p, _, rfl, .inr h, rfl, flat_ints ns, by rw [inV_int]; exact k⟩
theorem r_niL {ns : List Int} (h : SqL K H p (ns.map V.int)) (k : Q (.bl (!decide (i ∈ ns))) H) : rNiA K (.int i) (.ref p) H Q :=
  .inl ⟨p, _, rfl, .inl h, rfl, flat_ints ns, by rw [inV_int]; exact k⟩
theorem r_niT {ns : List Int} (h : SqT K H p (ns.map V.int)) (k : Q (.bl (!decide (i ∈ ns))) H) : rNiA K (.int i) (.ref p) H Q :=
  .inl ⟨p, _, rfl, .inr h, rfl, flat_ints ns, by rw [inV_int]; exact k⟩
/-- subscripts -/
theorem r_ixL (h : SqL K H p xs) (a : atI xs i = some v) (k : Q v H) : rIx K (.ref p) (.int i) H Q := .inl ⟨p, xs, i, v, rfl, rfl, h, a, k⟩
theorem r_ixT (h : SqT K H p xs) (a : atI xs i = some v) (k : Q v H) : rIx K (.ref p) (.int i) H Q := .inr (.inl ⟨p, xs, i, v, rfl, rfl, h, a, k⟩)
/-- displays -/
theorem r_nil {R : List V → Hp → Prop} (k : R [] H) : tNil σ H R := k
theorem r_cons {tr : TA} {R : List V → Hp → Prop} (k : ta σ H fun x H1 => tr σ H1 fun xs H2 => R (x :: xs) H2) : tCons ta tr σ H R := k
def NewT (Q : VK) (xs : List V) (H : Hp) : Prop := xs.length ≤ sizeLine ∧ ∀ p, H p = none → Q (.ref p) (upd H p (.tup xs))
def NewL (Q : VK) (xs : List V) (H : Hp) : Prop := xs.length ≤ sizeLine ∧ ∀ p, H p = none → Q (.ref p) (upd H p (.lst xs))
theorem r_tup {ta : TA} (k : ta σ H fun xs H1 => NewT Q xs H1) : tTup ta σ H Q := k
theorem r_lst {ta : TA} (k : ta σ H fun xs H1 => NewL Q xs H1) : tLst ta σ H Q := k
theorem r_newT (c : xs.length ≤ sizeLine) (k : ∀ p H', H p = none → Same H H' → H' p = some (.tup xs) → Q (.ref p) H') : NewT Q xs H :=
  ⟨c, fun p hp => k p _ hp (But.new (S := []) hp).same upd_same⟩
theorem r_newL (c : xs.length ≤ sizeLine) (k : ∀ p H', H p = none → Same H H' → H' p = some (.lst xs) → Q (.ref p) H') : NewL Q xs H :=
  ⟨c, fun p hp => k p _ hp (But.new (S := []) hp).same upd_same⟩
/-- built-ins -/
theorem r_CB {r : List V → Hp → VK → Prop} {ta : TA} (k : ta σ H fun vs H1 => r vs H1 Q) : tCB r ta σ H Q := k
theorem r_callS {sp : Sp} {E : L2.St → XK} {ta : TA} (k : ta σ H fun vs H1 => sp vs H1 Q (E σ)) : tCallS sp E ta σ H Q := k
theorem r_if {tt : TT} (k : tt σ H fun b H1 => if b = true then ta σ H1 Q else tb σ H1 Q) : tIf tt ta tb σ H Q := k
/-! ### tests -/
theorem r_test (k : te σ H fun x H' => ∃ k, x = .bl k ∧ R k H') : tTest te σ H R := k
theorem r_tB (k : te σ H fun x H' => ∃ k, x = .bl k ∧ R k H') : tB te σ H R := k
theorem r_and {a b : TT} (k : a σ H fun c H1 => if c = true then b σ H1 R else R false H1) : tAnd a b σ H R := k
theorem r_or {a b : TT} (k : a σ H fun c H1 => if c = true then R true H1 else b σ H1 R) : tOr a b σ H R := k
theorem r_not {a : TT} (k : a σ H fun c H1 => R (!c) H1) : tNot a σ H R := k
theorem r_exb {b : Bool} {R : Bool → Prop} (k : R b) : ∃ k, V.bl b = .bl k ∧ R k := ⟨b, rfl, k⟩
theorem r_yes (k : R true H) : tYes σ H R := k
theorem r_ite {P A B : Prop} {dp : Decidable P} (h1 : P → A) (h2 : ¬ P → B) : if decide P = true then A else B := by
  by_cases h : P
  · rw [decide_eq_true h, if_pos rfl]; exact h1 h
  · rw [decide_eq_false h, if_neg Bool.false_ne_true]; exact h2 h
theorem r_iteN {P A B : Prop} {dp : Decidable P} (h1 : ¬ P → A) (h2 : P → B) : if (!decide P) = true then A else B := by
  by_cases h : P
  · rw [decide_eq_true h]
    show if false = true then A else B
    rw [if_neg Bool.false_ne_true]; exact h2 h
  · rw [decide_eq_false h]
    show if true = true then A else B
    rw [if_pos rfl]; exact h1 h
theorem r_iteB {A B : Prop} {b : Bool} (h1 : b = true → A) (h2 : b = false → B) : if b = true then A else B := by
  cases b with
  | true => rw [if_pos rfl]; exact h1 rfl
  | false => rw [if_neg Bool.false_ne_true]; exact h2 rfl
theorem r_iteT {A B : Prop} {b : Bool} (e : b = true) (h : A) : if b = true then A else B := by rw [if_pos e]; exact h
theorem r_iteF {A B : Prop} {b : Bool} (e : b = false) (h : B) : if b = true then A else B := by rw [e, if_neg Bool.false_ne_true]; exact h
/-! ### statements -/
theorem r_seq (k : t { D with nx := u D } σ H) : tSeq t u D σ H := k
theorem r_next (k : D.nx σ H) : tNext D σ H := k
theorem r_brk (k : D.bk σ H) : tBreak D σ H := k
theorem r_cont (k : D.ct σ H) : tCont D σ H := k
theorem r_asg (k : te σ H fun x H1 => D.nx (σ.set n (some x)) H1) : tAsg te (gName n) D σ H := k
theorem r_asgG {g : TG} (k : te σ H fun x H1 => g x σ H1 D.nx) : tAsg te g D σ H := k
theorem r_drop (k : te σ H fun _ H1 => D.nx σ H1) : tDrop te D σ H := k
theorem r_ret (k : te σ H D.rt) : tRet te D σ H := k
theorem r_retN (k : D.rt .non H) : tRetN D σ H := k
theorem r_ifS {c : TT} (k : c σ H fun b H1 => if b = true then t D σ H1 else u D σ H1) : tIfS c t u D σ H := k
theorem r_aug {ti : TIp} (h : σ[n]? = some (some x)) (k : te σ H fun y H1 => ti x y H1 fun z H2 => D.nx (σ.set n (some z)) H2) : tAug n te ti D σ H := ⟨x, h, k⟩
theorem r_iaddI (k : Q (.int (i + j)) H) : rIadd (.int i) (.int j) H Q := .inl ⟨i, j, rfl, rfl, k⟩
/-! ### targets -/
theorem g_name {R : L2.St → Hp → Prop} (k : R (σ.set n (some v)) H) : gName n v σ H R := k
theorem g_tup {tg : TGs} {R : L2.St → Hp → Prop} {m : Nat} (h : SqT K H p xs) (l : xs.length = m) (k : tg xs σ H R) : gTup K m tg (.ref p) σ H R := ⟨p, xs, rfl, h, l, k⟩
theorem g_cons {g : TG} {tg : TGs} {R : L2.St → Hp → Prop} (k : g v σ H fun σ' H' => tg xs σ' H' R) : gCons g tg (v :: xs) σ H R := ⟨v, xs, rfl, k⟩
theorem g_nil {R : L2.St → Hp → Prop} (k : R σ H) : gNil [] σ H R := ⟨rfl, k⟩
theorem g_sub {to ti : TE} {ts : TSet} {R : L2.St → Hp → Prop} (k : to σ H fun o H1 => ti σ H1 fun i H2 => ts o i v H2 fun H3 => R σ H3) : gSub to ti ts v σ H R := k
theorem s_lst {R : Hp → Prop} {m : Nat} (h : H p = some (.lst xs)) (a : ixN xs.length i = some m) (k : ∀ H', But [p] H H' → H' p = some (.lst (xs.set m v)) → R H') : rSetL (.ref p) (.int i) v H R :=
  ⟨p, xs, i, m, rfl, rfl, h, a, k _ (But.write h (fun z => z) (by simp)) upd_same⟩
end
end J

set_option Elab.async false
set_option linter.all false
set_option maxRecDepth 100000
set_option maxHeartbeats 4000000
namespace J
open PySem L2 PyProof.Rows
theorem sz {n : Nat} (h : n ≤ 16777216) : n ≤ sizeLine := by rw [sizeLine_eq]; exact h
theorem szl {n : Nat} (h : n < 16777216) : n < sizeLine := by rw [sizeLine_eq]; exact h
section
variable {σ : L2.St} {H H' H1 : Hp} {K : PySem.W.Frag} {Q : VK} {i j : Int} {n : Nat} {v x y : V} {te ta tb tl : TE} {p q a l : Addr} {xs ys : List V}
  {D : Ends} {t u ts : TS} {R : Bool → Hp → Prop} {g : TG}
/-! ### for -/
abbrev Turn (g : TG) (ts : TS) (D : Ends) (N : L2.St → Hp → Prop) (x : V) (σ : L2.St) (H : Hp) : Prop :=
  g x σ H fun σ2 H2 => ts { D with nx := N, ct := N, bk := D.nx } σ2 H2
def ForL (K : PySem.W.Frag) (g : TG) (ts : TS) (D : Ends) (σ : L2.St) (x : V) (H : Hp) : Prop :=
  ∃ a, x = .ref a ∧ (∃ xs, SqL K H a xs) ∧ ∃ W : Nat → Nat → L2.St → Hp → Prop, (∃ m, W 0 m σ H) ∧ ∀ i m σ H, W i m σ H →
    ((Itl K a).stop i H ∧ D.nx σ H) ∨ ((Itl K a).go i H ∧ ∃ N : L2.St → Hp → Prop, (∀ σ' H', N σ' H' → ∃ m', m' < m ∧ W (i + 1) m' σ' H') ∧
      ∀ x H', (Itl K a).yld i H x H' → Turn g ts D N x σ H')
theorem r_forL (k : tl σ H fun x H1 => ForL K g ts D σ x H1) : tFor (iList K tl) g ts D σ H := k
theorem forL (h : SqL K H a xs) (Pv : Nat → L2.St → Hp → Prop) (h0 : Pv 0 σ H) (hl : ∀ i σ H, i ≤ xs.length → Pv i σ H → SqL K H a xs)
    (hs : ∀ i x σ H, xs[i]? = some x → Pv i σ H → Turn g ts D (Pv (i + 1)) x σ H) (hd : ∀ σ H, Pv xs.length σ H → D.nx σ H) : ForL K g ts D σ (.ref a) H :=
  ⟨a, rfl, ⟨xs, h⟩, for_list Pv h0 hl hs hd⟩
def ForT (K : PySem.W.Frag) (g : TG) (ts : TS) (D : Ends) (σ : L2.St) (x : V) (H : Hp) : Prop :=
  ∃ a, x = .ref a ∧ (∃ xs, SqT K H a xs) ∧ ∃ W : Nat → Nat → L2.St → Hp → Prop, (∃ m, W 0 m σ H) ∧ ∀ i m σ H, W i m σ H →
    ((Itt K a).stop i H ∧ D.nx σ H) ∨ ((Itt K a).go i H ∧ ∃ N : L2.St → Hp → Prop, (∀ σ' H', N σ' H' → ∃ m', m' < m ∧ W (i + 1) m' σ' H') ∧
      ∀ x H', (Itt K a).yld i H x H' → Turn g ts D N x σ H')
theorem r_forT (k : tl σ H fun x H1 => ForT K g ts D σ x H1) : tFor (iTup K tl) g ts D σ H := k
theorem forT (h : SqT K H a xs) (Pv : Nat → L2.St → Hp → Prop) (h0 : Pv 0 σ H) (hl : ∀ i σ H, i ≤ xs.length → Pv i σ H → SqT K H a xs)
    (hs : ∀ i x σ H, xs[i]? = some x → Pv i σ H → Turn g ts D (Pv (i + 1)) x σ H) (hd : ∀ σ H, Pv xs.length σ H → D.nx σ H) : ForT K g ts D σ (.ref a) H :=
  ⟨a, rfl, ⟨xs, h⟩, for_tup Pv h0 hl hs hd⟩
def ForR (g : TG) (ts : TS) (D : Ends) (σ : L2.St) (vs : List V) (H : Hp) : Prop :=
  ∃ j : Int, vs = [.int j] ∧ -(2 ^ 62) ≤ j ∧ j < 2 ^ 62 ∧ ∃ W : Nat → Nat → L2.St → Hp → Prop, (∃ m, W 0 m σ H) ∧ ∀ i m σ H, W i m σ H →
    ((Itr 0 j.toNat).stop i H ∧ D.nx σ H) ∨ ((Itr 0 j.toNat).go i H ∧ ∃ N : L2.St → Hp → Prop, (∀ σ' H', N σ' H' → ∃ m', m' < m ∧ W (i + 1) m' σ' H') ∧
      ∀ x H', (Itr 0 j.toNat).yld i H x H' → Turn g ts D N x σ H')
theorem r_forR {ta : TA} (k : ta σ H fun vs H1 => ForR g ts D σ vs H1) : tFor (iRng1 ta) g ts D σ H := k
theorem forR (b : -(2 ^ 62) ≤ j ∧ j < 2 ^ 62) (Pv : Nat → L2.St → Hp → Prop) (h0 : Pv 0 σ H)
    (hs : ∀ (i : Nat) σ H, (i : Int) < j → Pv i σ H → Turn g ts D (Pv (i + 1)) (.int i) σ H) (hd : ∀ σ H, Pv j.toNat σ H → D.nx σ H) : ForR g ts D σ [.int j] H :=
  ⟨j, rfl, b.1, b.2, for_range Pv h0 (fun i σ H hi p => by
    rw [Int.zero_add]
    exact hs i σ H (by omega) p) hd⟩
def ForR2 (g : TG) (ts : TS) (D : Ends) (σ : L2.St) (vs : List V) (H : Hp) : Prop :=
  ∃ i j : Int, vs = [.int i, .int j] ∧ (-(2 ^ 62) ≤ i ∧ i < 2 ^ 62 ∧ -(2 ^ 62) ≤ j ∧ j < 2 ^ 62) ∧ ∃ W : Nat → Nat → L2.St → Hp → Prop, (∃ m, W 0 m σ H) ∧ ∀ k m σ H, W k m σ H →
    ((Itr i (j - i).toNat).stop k H ∧ D.nx σ H) ∨ ((Itr i (j - i).toNat).go k H ∧ ∃ N : L2.St → Hp → Prop, (∀ σ' H', N σ' H' → ∃ m', m' < m ∧ W (k + 1) m' σ' H') ∧
      ∀ x H', (Itr i (j - i).toNat).yld k H x H' → Turn g ts D N x σ H')
theorem r_forR2 {ta : TA} (k : ta σ H fun vs H1 => ForR2 g ts D σ vs H1) : tFor (iRng2 ta) g ts D σ H := k
theorem forR2 (b : -(2 ^ 62) ≤ i ∧ i < 2 ^ 62 ∧ -(2 ^ 62) ≤ j ∧ j < 2 ^ 62) (Pv : Nat → L2.St → Hp → Prop) (h0 : Pv 0 σ H)
    (hs : ∀ (k : Nat) σ H, i + k < j → Pv k σ H → Turn g ts D (Pv (k + 1)) (.int (i + k)) σ H) (hd : ∀ σ H, Pv (j - i).toNat σ H → D.nx σ H) : ForR2 g ts D σ [.int i, .int j] H :=
  ⟨i, j, rfl, b, for_range Pv h0 (fun k σ H hk p => hs k σ H (by omega) p) hd⟩
/-- enumerate -/
def ForE (K : PySem.W.Frag) (g : TG) (ts : TS) (D : Ends) (σ : L2.St) (vs : List V) (H : Hp) : Prop :=
  ∃ a xs, vs = [.ref a] ∧ SqL K H a xs ∧ ∃ W : Nat → Nat → L2.St → Hp → Prop, (∃ m, W 0 m σ H) ∧ ∀ i m σ H, W i m σ H →
    ((Ite K a).stop i H ∧ D.nx σ H) ∨ ((Ite K a).go i H ∧ ∃ N : L2.St → Hp → Prop, (∀ σ' H', N σ' H' → ∃ m', m' < m ∧ W (i + 1) m' σ' H') ∧
      ∀ x H', (Ite K a).yld i H x H' → Turn g ts D N x σ H')
theorem r_forE {ta : TA} (k : ta σ H fun vs H1 => ForE K g ts D σ vs H1) : tFor (iEnum K ta) g ts D σ H := k
theorem forE (h : SqL K H a xs) (Pv : Nat → L2.St → Hp → Prop) (h0 : Pv 0 σ H) (hl : ∀ i σ H, i ≤ xs.length → Pv i σ H → SqL K H a xs)
    (hs : ∀ i x σ H, xs[i]? = some x → Pv i σ H → ∀ T H', H T = none → Same H H' → H' T = some (.tup [.int (i : Nat), x]) → Turn g ts D (Pv (i + 1)) (.ref T) σ H')
    (hd : ∀ σ H, Pv xs.length σ H → D.nx σ H) : ForE K g ts D σ [.ref a] H := by
  refine ⟨a, xs, rfl, h, fun i m σ H => m = xs.length - i ∧ i ≤ xs.length ∧ Pv i σ H, ⟨_, rfl, Nat.zero_le _, h0⟩, ?_⟩
  rintro i m σ H ⟨rfl, hi, p⟩
  have q := hl i σ H hi p
  by_cases hlt : i < xs.length
  · refine .inr ⟨⟨xs, xs[i], q, by simp [hlt]⟩, Pv (i + 1), fun σ' H' p' => ⟨xs.length - (i + 1), by omega, rfl, hlt, p'⟩, fun x H' y => ?_⟩
    obtain ⟨T, z, rfl, hT, rfl, e⟩ := y
    exact hs i z σ H (e xs q) p T _ hT (But.new (S := []) hT).same upd_same
  · have e : i = xs.length := by omega
    subst e
    exact .inl ⟨⟨xs, q, Nat.le_refl _⟩, hd σ H p⟩
/-! ### comprehensions -/
/-- one turn of a comprehension: l the new list -/
abbrev LTurn (g : TG) (tt : TT) (te : TE) (vs : List Nat) (l : Addr) (N : Hp → Prop) (x : V) (σ : L2.St) (H : Hp) : Prop :=
  g x (wipe σ vs) H fun σ2 H2 => wipe σ2 vs = wipe σ vs ∧ tt σ2 H2 fun b H3 =>
    if b = true then te σ2 H3 fun y H4 => ∃ acc, H4 l = some (.lst acc) ∧ acc.length < sizeLine ∧ N (upd H4 l (.lst (acc ++ [y]))) else N H3
abbrev LcG (J : It) (g : TG) (tt : TT) (te : TE) (vs : List Nat) (σ : L2.St) (Q : VK) (H : Hp) : Prop :=
  ∀ l, H l = none → ∃ W : Nat → Nat → Hp → Prop, (∃ m, W 0 m (upd H l (.lst []))) ∧ ∀ i m H, W i m H →
    (J.stop i H ∧ Q (.ref l) H) ∨ (J.go i H ∧ ∃ N : Hp → Prop, (∀ H', N H' → ∃ m', m' < m ∧ W (i + 1) m' H') ∧ ∀ x H', J.yld i H x H' → LTurn g tt te vs l N x σ H')
def LcL (K : PySem.W.Frag) (g : TG) (tt : TT) (te : TE) (vs : List Nat) (σ : L2.St) (Q : VK) (x : V) (H : Hp) : Prop :=
  ∃ a, x = .ref a ∧ (∃ xs, SqL K H a xs) ∧ LcG (Itl K a) g tt te vs σ Q H
theorem r_lcL {tt : TT} {vs : List Nat} (k : tl σ H fun x H1 => LcL K g tt te vs σ Q x H1) : tLc (iList K tl) g tt te vs σ H Q := k
theorem lcL {tt : TT} {vs : List Nat} (h : SqL K H a xs) (mk : ∀ l H0, H l = none → Same H H0 → H0 l = some (.lst []) → ∃ Pv : Nat → Hp → Prop, Pv 0 H0 ∧ (∀ i H, i ≤ xs.length → Pv i H → SqL K H a xs) ∧
      (∀ i x H, xs[i]? = some x → Pv i H → LTurn g tt te vs l (Pv (i + 1)) x σ H) ∧ ∀ H, Pv xs.length H → Q (.ref l) H) : LcL K g tt te vs σ Q (.ref a) H := by
  refine ⟨a, rfl, ⟨xs, h⟩, fun l hl => ?_⟩
  obtain ⟨Pv, h0, h1, h2, h3⟩ := mk l _ hl (But.new (S := []) hl).same upd_same
  exact lc_list Pv h0 h1 h2 h3
def LcT (K : PySem.W.Frag) (g : TG) (tt : TT) (te : TE) (vs : List Nat) (σ : L2.St) (Q : VK) (x : V) (H : Hp) : Prop :=
  ∃ a, x = .ref a ∧ (∃ xs, SqT K H a xs) ∧ LcG (Itt K a) g tt te vs σ Q H
theorem r_lcT {tt : TT} {vs : List Nat} (k : tl σ H fun x H1 => LcT K g tt te vs σ Q x H1) : tLc (iTup K tl) g tt te vs σ H Q := k
theorem lcT {tt : TT} {vs : List Nat} (h : SqT K H a xs) (mk : ∀ l H0, H l = none → Same H H0 → H0 l = some (.lst []) → ∃ Pv : Nat → Hp → Prop, Pv 0 H0 ∧ (∀ i H, i ≤ xs.length → Pv i H → SqT K H a xs) ∧
      (∀ i x H, xs[i]? = some x → Pv i H → LTurn g tt te vs l (Pv (i + 1)) x σ H) ∧ ∀ H, Pv xs.length H → Q (.ref l) H) : LcT K g tt te vs σ Q (.ref a) H := by
  refine ⟨a, rfl, ⟨xs, h⟩, fun l hl => ?_⟩
  obtain ⟨Pv, h0, h1, h2, h3⟩ := mk l _ hl (But.new (S := []) hl).same upd_same
  exact lc_tup Pv h0 h1 h2 h3
/-- what an element's evaluation leaves: the list one item longer -/
theorem lc_put {N : Hp → Prop} (h : H l = some (.lst xs)) (c : xs.length < sizeLine) (k : ∀ H', But [l] H H' → H' l = some (.lst (xs ++ [y])) → N H') :
    ∃ acc, H l = some (.lst acc) ∧ acc.length < sizeLine ∧ N (upd H l (.lst (acc ++ [y]))) :=
  ⟨xs, h, c, k _ (But.write h (fun z => z) (by simp)) upd_same⟩
theorem r_and2 {A B : Prop} (h : A) (k : B) : A ∧ B := ⟨h, k⟩
/-! ### methods of lists -/
theorem r_bm {T : String} {r : V → List V → Hp → VK → Prop} {to : TE} {ta : TA} (k : to σ H fun x H1 => tyV K T x H1 ∧ ta σ H1 fun xs H2 => r x xs H2 Q) : tBM K T r to ta σ H Q := k
theorem r_bm0 {T : String} {r : V → List V → Hp → VK → Prop} {to : TE} (k : to σ H fun x H1 => tyV K T x H1 ∧ r x [] H1 Q) : tBM0 K T r to σ H Q := k
theorem r_tyL {B : Prop} (h : SqL K H p xs) (k : B) : tyV K "list" (.ref p) H ∧ B := ⟨.inl ⟨rfl, xs, h⟩, k⟩
theorem r_app (h : H l = some (.lst xs)) (c : xs.length < sizeLine) (k : ∀ H', But [l] H H' → H' l = some (.lst (xs ++ [v])) → Q .non H') : rAppend (.ref l) [v] H Q :=
  ⟨l, xs, v, rfl, rfl, h, c, k _ (But.write h (fun z => z) (by simp)) upd_same⟩
theorem r_ext (h : H l = some (.lst xs)) (h' : H p = some (.lst ys)) (c : xs.length + ys.length ≤ sizeLine) (k : ∀ H', But [l] H H' → H' l = some (.lst (xs ++ ys)) → Q (.ref l) H') : rIadd (.ref l) (.ref p) H Q :=
  .inr (.inr ⟨l, p, xs, ys, rfl, rfl, h, h', c, k _ (But.write h (fun z => z) (by simp)) upd_same⟩)
/-! ### built-ins -/
theorem r_lenL (h : SqL K H p xs) (k : Q (.int xs.length) H) : rLenA K [.ref p] H Q := ⟨_, _, rfl, .inl ⟨xs, h, rfl⟩, k⟩
theorem r_lenT (h : SqT K H p xs) (k : Q (.int xs.length) H) : rLenA K [.ref p] H Q := ⟨_, _, rfl, .inr ⟨xs, h, rfl⟩, k⟩
theorem r_lenS {z : Str} (c : z.length ≤ sizeLine) (k : Q (.int z.length) H) : rLenA K [.str z] H Q := ⟨_, _, rfl, ⟨c, rfl⟩, k⟩
theorem r_intI (k : Q (.int i) H) : (∃ j, [V.int i] = [.int j] ∧ Q (.int j) H) ∨ ∃ b, [V.int i] = [.bl b] ∧ Q (.int (if b then 1 else 0)) H := .inl ⟨i, rfl, k⟩
theorem r_slL {lo hi : Option Int} (h : SqL K H p xs) (k : ∀ l H', H l = none → Same H H' → H' l = some (.lst (cutV xs lo hi)) → Q (.ref l) H') : rSlAny K (.ref p) lo hi H Q :=
  .inl ⟨p, xs, rfl, h, fun l hl => k l _ hl (But.new (S := []) hl).same upd_same⟩
theorem r_tupleL (h : SqL K H p xs) (k : ∀ l H', H l = none → Same H H' → H' l = some (.tup xs) → Q (.ref l) H') : rTupA K [.ref p] H Q :=
  ⟨p, xs, rfl, .inl ⟨h, fun l hl => k l _ hl (But.new (S := []) hl).same upd_same⟩⟩
theorem r_listL (h : SqL K H p xs) (k : ∀ l H', H l = none → Same H H' → H' l = some (.lst xs) → Q (.ref l) H') : rListA K [.ref p] H Q :=
  ⟨p, xs, rfl, .inl h, fun l hl => k l _ hl (But.new (S := []) hl).same upd_same⟩
theorem r_repr {d : PyData} (h : Dp K H x d) (s : d.showable = true) (e : d.depth ≤ 60) (c : d.shown.length ≤ sizeLine) (k : Q (.str d.shown) H) : rRepr K [x] H Q := ⟨x, d, rfl, h, s, e, c, k⟩
end
end J

set_option Elab.async false
set_option linter.all false
set_option maxRecDepth 100000
set_option maxHeartbeats 4000000
namespace J
open PySem L2 PyProof.Rows
theorem listText_le (ts : List Str) : (listText ts).length ≤ piled ts + 2 := by
  have e1 : (listText ts).length = (textFrom 0 "[" ts).length + 1 := by
    show (textFrom 0 "[" ts ++ "]").length = _
    rw [strLen_append]
    rfl
  cases ts with
  | nil => rw [e1]; decide
  | cons t r =>
    have h := textFrom_length_pos r 1 (("[" : Str) ++ (if (0 : Nat) > 0 then ", " else "" : String) ++ t) (Nat.succ_pos 0)
    have e2 : ((("[" : Str) ++ (if (0 : Nat) > 0 then ", " else "" : String) ++ t)).length = 1 + t.length := by
      rw [strLen_append, strLen_append]; rfl
    have e3 : textFrom 0 "[" (t :: r) = textFrom 1 (("[" : Str) ++ (if (0 : Nat) > 0 then ", " else "" : String) ++ t) r := rfl
    rw [e1, e3, h, e2, piled_cons]
    omega
theorem tupleText_le (ts : List Str) : (tupleText ts).length ≤ piled ts + 3 := by
  have e3 : (((if ts.length == 1 then ",)" else ")" : String) : Str)).length ≤ 2 := by split <;> decide +kernel
  have e1 : ((("(" : String) : Str)).length = 1 := rfl
  unfold tupleText
  rw [strLen_append, strLen_append, e1]
  by_cases h : ts = []
  · subst h
    decide +kernel
  · have := join_length_add ts h
    omega
/-- bounds of data: for repr, for ==: its text at most n signs, at most k deep -/
structure Ok (n k : Nat) (d : PyData) : Prop where
  lay : d.canLay0 = true
  show_ : d.showable = true
  dep : d.depth ≤ k
  len : d.shown.length ≤ n
structure OkAll (n k : Nat) (ds : List PyData) : Prop where
  all : ∀ d ∈ ds, Ok n k d
theorem Ok.mono {n k n' k' : Nat} {d : PyData} (h : Ok n k d) (hn : n ≤ n') (hk : k ≤ k') : Ok n' k' d :=
  ⟨h.lay, h.show_, Nat.le_trans h.dep hk, Nat.le_trans h.len hn⟩
theorem Ok.shaped {n k : Nat} {d : PyData} (h : Ok n k d) (hk : k ≤ 60) : SeqAt.shaped d = true := by
  have := h.dep
  unfold SeqAt.shaped
  rw [h.lay, decide_eq_true (by omega)]
  rfl
theorem Ok.eqv {n k : Nat} {d : PyData} (h : Ok n k d) : PyData.eqv d d = true := SeqAt.eqv_refl d h.lay
theorem okNone : Ok 4 0 .none := ⟨rfl, rfl, Nat.le_refl _, by decide +kernel⟩
theorem okBool (b : Bool) : Ok 5 0 (.bool b) := ⟨rfl, rfl, Nat.le_refl _, by cases b <;> decide +kernel⟩
theorem okInt {i : Int} {m : Nat} (h : i.natAbs < 2 ^ m) (hm : m ≤ 1900) : Ok (m + 2) 0 (.int i) := by
  by_cases h0 : i.natAbs = 0
  · have e : i = 0 := by omega
    subst e
    refine ⟨rfl, by decide, Nat.le_refl _, ?_⟩
    have : ((PyData.int 0).shown).length = 1 := by decide +kernel
    omega
  · have h1 : i.natAbs.log2 < m := (Nat.log2_lt h0).mpr h
    refine ⟨rfl, ?_, Nat.le_refl _, ?_⟩
    · show decide (i.natAbs.log2 < 1920) = true
      exact decide_eq_true (by omega)
    · have h2 := int_text_length_le (a := i) (k := m) (by omega) h1
      have e : ((PyData.int i).shown).length = (toString i).length := by
        simp only [PyData.shown]
        exact PySem.ofString_length _
      omega
theorem okStr {x : Str} {n : Nat} (h : PyData.strOk x = true) (hl : (reprText x).length ≤ n) : Ok n 0 (.str x) := ⟨h, rfl, Nat.le_refl _, hl⟩
theorem all_lay {n k : Nat} : ∀ {ds : List PyData}, OkAll n k ds → PyData.canLayAll0 ds = true
  | [], _ => rfl
  | d :: ds, h => by
    show (d.canLay0 && PyData.canLayAll0 ds) = true
    rw [(h.all d List.mem_cons_self).lay, all_lay ⟨fun e he => h.all e (List.mem_cons_of_mem _ he)⟩]
    rfl
theorem all_show {n k : Nat} : ∀ {ds : List PyData}, OkAll n k ds → PyData.showableAll ds = true
  | [], _ => rfl
  | d :: ds, h => by
    show (d.showable && PyData.showableAll ds) = true
    rw [(h.all d List.mem_cons_self).show_, all_show ⟨fun e he => h.all e (List.mem_cons_of_mem _ he)⟩]
    rfl
theorem all_dep {n k : Nat} : ∀ {ds : List PyData}, OkAll n k ds → PyData.depthAll ds ≤ k
  | [], _ => Nat.zero_le _
  | d :: ds, h => Nat.max_le.mpr ⟨(h.all d List.mem_cons_self).dep, all_dep ⟨fun e he => h.all e (List.mem_cons_of_mem _ he)⟩⟩
theorem all_len {n k : Nat} : ∀ {ds : List PyData}, OkAll n k ds → piled (PyData.shownAll ds) ≤ ds.length * (n + 2)
  | [], _ => Nat.zero_le _
  | d :: ds, h => by
    have h1 := (h.all d List.mem_cons_self).len
    have h2 := all_len (n := n) (k := k) (ds := ds) ⟨fun e he => h.all e (List.mem_cons_of_mem _ he)⟩
    show piled (d.shown :: PyData.shownAll ds) ≤ _
    rw [piled_cons, List.length_cons, Nat.add_mul]
    omega
theorem okList {n k m : Nat} {ds : List PyData} (h : OkAll n k ds) (hm : ds.length ≤ m) : Ok (m * (n + 2) + 2) (k + 1) (.list ds) := by
  refine ⟨all_lay h, all_show h, Nat.succ_le_succ (all_dep h), ?_⟩
  have h1 := listText_le (PyData.shownAll ds)
  have h2 := all_len h
  have h3 : ds.length * (n + 2) ≤ m * (n + 2) := Nat.mul_le_mul_right _ hm
  simp only [PyData.shown]
  omega
theorem okTup {n k m : Nat} {ds : List PyData} (h : OkAll n k ds) (hm : ds.length ≤ m) : Ok (m * (n + 2) + 3) (k + 1) (.tuple ds) := by
  refine ⟨all_lay h, all_show h, Nat.succ_le_succ (all_dep h), ?_⟩
  have h1 := tupleText_le (PyData.shownAll ds)
  have h2 := all_len h
  have h3 : ds.length * (n + 2) ≤ m * (n + 2) := Nat.mul_le_mul_right _ hm
  simp only [PyData.shown]
  omega
theorem OkAll.nil {n k : Nat} : OkAll n k [] := ⟨fun _ h => nomatch h⟩
theorem OkAll.cons {n k : Nat} {d : PyData} {ds : List PyData} (h : Ok n k d) (t : OkAll n k ds) : OkAll n k (d :: ds) :=
  ⟨fun e he => (List.mem_cons.mp he).elim (fun q => q ▸ h) (t.all e)⟩
theorem OkAll.append {n k : Nat} {ds es : List PyData} (h : OkAll n k ds) (t : OkAll n k es) : OkAll n k (ds ++ es) :=
  ⟨fun e he => (List.mem_append.mp he).elim (h.all e) (t.all e)⟩
theorem OkAll.map {α : Type} {n k : Nat} {f : α → PyData} {xs : List α} (h : ∀ x ∈ xs, Ok n k (f x)) : OkAll n k (xs.map f) :=
  ⟨fun e he => by obtain ⟨x, hx, rfl⟩ := List.mem_map.mp he; exact h x hx⟩
section
variable {K : PySem.W.Frag} {S : List Addr} {H : Hp} {v : V} {ds : List PyData} {vs : List V} {d : PyData}
theorem Dn.tup_inv (h : Dn K S H v (.tuple ds)) : ∃ a xs, v = .ref a ∧ SqT K H a xs ∧ DnAll K S H xs ds := by
  cases h with
  | tup h1 h2 => exact ⟨_, _, rfl, h1, h2⟩
theorem Dn.lst_inv (h : Dn K S H v (.list ds)) : ∃ a xs, v = .ref a ∧ H a = some (.lst xs) ∧ a ∉ S ∧ DnAll K S H xs ds := by
  cases h with
  | lst h1 h2 h3 => exact ⟨_, _, rfl, h1, h2, h3⟩
theorem Dn.int_inv {i : Int} (h : Dn K S H v (.int i)) : v = .int i := by
  cases h; rfl
theorem Dn.str_inv {x : Str} (h : Dn K S H v (.str x)) : v = .str x := by
  cases h; rfl
theorem DnAll.nil_inv (h : DnAll K S H vs []) : vs = [] := by
  cases h; rfl
theorem DnAll.cons_inv (h : DnAll K S H vs (d :: ds)) : ∃ w ws, vs = w :: ws ∧ Dn K S H w d ∧ DnAll K S H ws ds := by
  cases h with
  | cons h1 h2 => exact ⟨_, _, rfl, h1, h2⟩
end
section
variable {K : PySem.W.Frag} {S T : List Addr} {H H' : Hp} {v : V} {ds : List PyData} {vs : List V} {d : PyData}
theorem dn_same (b : Same H H') (h : Dn K S H v d) : Dn K S H' v d := h.same b
theorem dn_but (b : But T H H') (h : Dn K S H v d) (hs : ∀ s ∈ T, s ∈ S) : Dn K S H' v d := h.but b hs
theorem da_same (b : Same H H') (h : DnAll K S H vs ds) : DnAll K S H' vs ds := h.same b
theorem da_but (b : But T H H') (h : DnAll K S H vs ds) (hs : ∀ s ∈ T, s ∈ S) : DnAll K S H' vs ds := h.but b hs
end
/-! ### data without lists -/
mutual
def noL : PyData → Bool
  | .list _ => false
  | .tuple xs => noLs xs
  | .dict _ => false
  | _ => true
def noLs : List PyData → Bool
  | [] => true
  | x :: xs => noL x && noLs xs
end
theorem Dn.any {K : PySem.W.Frag} {S T : List Addr} {H : Hp} {v : V} {d : PyData} (h : Dn K S H v d) (n : noL d = true) : Dn K T H v d := by
  refine Dn.rec (motive_1 := fun v d _ => noL d = true → Dn K T H v d) (motive_2 := fun vs ds _ => noLs ds = true → DnAll K T H vs ds) ?_ ?_ ?_ ?_ ?_ ?_ ?_ ?_ h n
  · exact fun _ => .non
  · exact fun b _ => .bl b
  · exact fun i _ => .int i
  · exact fun x _ => .str x
  · intro a xs ds _ _ _ _ q
    simp [noL] at q
  · intro a xs ds h1 _ ih q
    exact .tup h1 (ih (by simpa [noL] using q))
  · exact fun _ => .nil
  · intro v vs d ds _ _ h1 h2 q
    have q' : noL d = true ∧ noLs ds = true := by simpa [noLs] using q
    exact .cons (h1 q'.1) (h2 q'.2)
theorem DnAll.any {K : PySem.W.Frag} {S T : List Addr} {H : Hp} {vs : List V} {ds : List PyData} (h : DnAll K S H vs ds) (n : noLs ds = true) : DnAll K T H vs ds := by
  induction ds generalizing vs with
  | nil =>
    cases h
    exact .nil
  | cons d ds ih =>
    cases h with
    | cons h1 h2 =>
      have n' : noL d = true ∧ noLs ds = true := by simpa [noLs] using n
      exact .cons (h1.any n'.1) (ih h2 n'.2)
end J

set_option Elab.async false
set_option linter.all false
set_option maxRecDepth 100000
set_option maxHeartbeats 4000000
namespace J
open PySem PySem.Spec L2 L2.DX PyProof.Rows
/-! ### pairs of ints, sorted -/
def pairD (q : Int × Int) : PyData := .tuple [.int q.1, .int q.2]
/-- not after -/
abbrev Lex (x y : Int × Int) : Prop := SrtO.lexB y x = false
def PairAt (H : Hp) (x : V) (q : Int × Int) : Prop := ∃ t, x = .ref t ∧ H t = some (.tup [.int q.1, .int q.2])
def pairK (H : Hp) : V → Int × Int
  | .ref t => match H t with
    | some (.tup [.int i, .int j]) => (i, j)
    | _ => (0, 0)
  | _ => (0, 0)
theorem pairK_of {H : Hp} {x : V} {q : Int × Int} (h : PairAt H x q) : pairK H x = q := by
  obtain ⟨t, rfl, e⟩ := h
  show (match H t with | some (.tup [.int i, .int j]) => (i, j) | _ => ((0, 0) : Int × Int)) = q
  rw [e]
theorem pairK_map {H : Hp} : ∀ {xs : List V} {qs : List (Int × Int)}, Paired (PairAt H) xs qs → xs.map (pairK H) = qs
  | _, _, .nil => rfl
  | _, _, .cons h t => by rw [List.map_cons, pairK_of h, pairK_map t]
theorem pair_mem {H : Hp} : ∀ {xs : List V} {qs : List (Int × Int)}, Paired (PairAt H) xs qs → ∀ x ∈ xs, PairAt H x (pairK H x)
  | _, _, .cons h t, x, hx => by
    rcases List.mem_cons.mp hx with e | hx
    · subst e
      rw [pairK_of h]; exact h
    · exact pair_mem t x hx
theorem pairs_dn {K : PySem.W.Frag} {H H' : Hp} (s : Same H H') : ∀ {ys : List V}, (∀ y ∈ ys, PairAt H y (pairK H y)) → DnAll K [] H' ys ((ys.map (pairK H)).map pairD)
  | [], _ => .nil
  | y :: ys, h => by
    obtain ⟨t, e, ht⟩ := h y List.mem_cons_self
    refine .cons ?_ (pairs_dn s fun z hz => h z (List.mem_cons_of_mem _ hz))
    have e2 : Dn K [] H' (.ref t) (pairD (pairK H y)) := .tup (SqT.of (s _ _ ht)) (.cons (.int _) (.one (.int _)))
    rw [← e] at e2
    exact e2
/-- what sorted gives -/
def SortedTo (K : PySem.W.Frag) (Q : VK) (kvs : List (Int × Int)) (H : Hp) : Prop :=
  ∀ (l : Addr) (zs : List (Int × Int)) (ys : List V) (H' : Hp), H l = none → Same H H' → H' l = some (.lst ys) → DnAll K [] H' ys (zs.map pairD) → zs.Perm kvs → zs.Pairwise Lex → Q (.ref l) H'
theorem sorted_to {K : PySem.W.Frag} {Q : VK} {kvs : List (Int × Int)} {H H1 H2 : Hp} {xs ys : List V} {l : Addr} (k : SortedTo K Q kvs H) (s1 : Same H H1) (hx : Paired (PairAt H1) xs kvs)
    (h1 : SrtO.Srtd (ltP (pairK H1)) ys) (h2 : SrtO.Stb (ltP (pairK H1)) ys xs) (hl : H l = none) (s2 : Same H1 H2) (hl2 : H2 l = some (.lst ys)) : Q (.ref l) H2 := by
  refine k l (ys.map (pairK H1)) ys H2 hl (fun b o e => s2 b o (s1 b o e)) hl2 (pairs_dn s2 fun y hy => ?_) ?_ ?_
  · exact pair_mem hx y (h2.perm.mem_iff.mp hy)
  · rw [← pairK_map hx]
    exact h2.perm.map _
  · exact List.pairwise_map.mpr h1
section
variable {K : PySem.W.Frag} {H : Hp} {Q : VK} {p : Addr} {xs : List V} {kvs : List (Int × Int)}
theorem r_sortedP (h : SqL K H p xs) (hx : Paired (PairAt H) xs kvs) (k : SortedTo K Q kvs H) : rSortedPO K [.ref p] H Q :=
  ⟨p, xs, pairK H, rfl, h, pair_mem hx, fun ys l h1 h2 hl => sorted_to k (fun _ _ e => e) hx h1 h2 hl (But.new (S := []) hl).same upd_same⟩
end
/-! ### d.items(), d with int keys and int values -/
def intKV (kvs : List (Int × Int)) : List (L2.Key × V) := kvs.map fun q => (.inl q.1, .int q.2)
def rItemsK : V → List V → Hp → VK → Prop := fun x xs H Q => ∃ (a : Addr) (kvs : List (L2.Key × V)), x = .ref a ∧ xs = [] ∧ H a = some (.dK kvs) ∧ ∀ p, H p = none → Q (.ref p) (upd H p (itemsO p a))
section
variable {X : Cx}
theorem mt_itemsK : MtR X "dict.items" rItemsK := by
  intro pins s σ H x xs v us Q I rx rxs h
  obtain ⟨a, kvs, rfl, rfl, ha, q⟩ := h
  cases rx
  cases rxs
  obtain ⟨hz, hs0, vs, kv, hdo⟩ := I.hok a _ ha
  have hf : H s.heap.objs.size = none := I.hok.fresh (Nat.le_refl _)
  have e : EP X pins σ Q (.ref s.heap.objs.size) { s with heap := s.heap.push { cls := .type "dict_items", data := .fields #[.ref a] } } :=
    ⟨.ref s.heap.objs.size, upd H s.heap.objs.size (itemsO s.heap.objs.size a), I.laid (t' := s.toks) (fun b u e => Heap.get?_push_of_some _ e) (Nat.le_refl _) (itemsO_ok (Heap.get?_push_size _ rfl)), rfl, q _ hf⟩
  exact call_meetsIn F.slot_dict_items hdo.typeIs F.entry_dict_items (F.args_dict_items_1 _) (meets_dict_items (mixKind X.prog X.w) a hs0) ⟨⟨vs, hdo⟩, e⟩
/-- the invariant elsewhere -/
theorem inv_around {pins : List (Addr × Obj)} {σ : L2.St} {H : Hp} {s : Shared} (I : Inv X pins σ H s) (A' : Around) (h1 : A'.handled = X.A.handled) (h2 : A'.frames = X.A.frames) :
    Inv { X with A := A' } pins σ H s :=
  ⟨⟨I.ok.mod, I.ok.kind, I.ok.glob, I.ok.blt, I.ok.above, I.ok.inj, I.ok.has, I.ok.cab, fun c => h1.trans (I.ok.hd c), h2.trans I.ok.frames, I.ok.stk, I.ok.exf, I.ok.bs, I.ok.bsz, I.ok.noex, I.ok.exfs, I.ok.funs, I.ok.frf⟩,
   I.os, I.bare, I.base, I.loc, I.cell, I.free, I.freeC, I.pin, I.hok, I.len⟩
theorem inv_back {A' : Around} {pins : List (Addr × Obj)} {σ : L2.St} {H : Hp} {s : Shared} (I : Inv { X with A := A' } pins σ H s) (h1 : A'.handled = X.A.handled) (h2 : A'.frames = X.A.frames) :
    Inv X pins σ H s := inv_around (X := { X with A := A' }) I X.A h1.symm h2.symm
/-- the tuples and the list of them, tracked -/
theorem items_laid2 {pins : List (Addr × Obj)} {σ : L2.St} {H : Hp} {s : Shared} {h' : Heap} {tk S : Nat} {kvs : List (L2.Key × V)} {vs : List (L2.Key × Value)} {as : List Addr} (I : Inv X pins σ H s) (hz : kvs.length ≤ sizeLine) (kv : KV kvs vs)
    (hk : ∀ b o, s.heap.get? b = some o → h'.get? b = some o) (hS : h'.get? S = some { cls := .type "list", data := .seq (as.map Value.ref).toArray }) (hSl : s.heap.objs.size ≤ S) (hSn : S ∉ as) (hl : as.length = vs.length) (hG : PySem.W.KdxG (mixKind X.prog X.w) vs s.heap.objs.size h' as) :
    ∃ H' : Hp, Same H H' ∧ H S = none ∧ H' S = some (.lst (as.map V.ref)) ∧ Paired (fun (t : Addr) (q : L2.Key × V) => H' t = some (.tup [kV q.1, q.2])) as kvs ∧ Inv X pins σ H' { s with heap := h', toks := tk } := by
  have lk : kvs.length = vs.length := Paired.length kv
  have nd : as.Nodup := List.Pairwise.imp (fun {a b} (h : a < b) => Nat.ne_of_lt h) hG.rise
  have new : ∀ t ∈ as, H t = none := fun t ht => I.hok.fresh (Nat.le_of_lt (hG.above t ht))
  have newS : H S = none := I.hok.fresh hSl
  have atP := LiI.putT_at as kvs (upd H S (.lst (as.map V.ref))) (by omega) nd
  have off : ∀ b, b ∉ as → b ≠ S → LiI.putT (upd H S (.lst (as.map V.ref))) as kvs b = H b := fun b h1 h2 => by rw [LiI.putT_off as kvs _ h1, upd_ne h2]
  have low : ∀ b o, s.heap.get? b = some o → b ∉ as ∧ b ≠ S := fun b o e => ⟨fun z => absurd (Heap.lt_size e) (Nat.not_lt.mpr (Nat.le_of_lt (hG.above b z))), Nat.ne_of_lt (Nat.lt_of_lt_of_le (Heap.lt_size e) hSl)⟩
  have kp : ∀ b u, H b = some u → (LiI.putT (upd H S (.lst (as.map V.ref))) as kvs) b = some u := fun b u e => by
    rw [off b (fun z => by rw [new b z] at e; cases e) (fun z => by rw [z, newS] at e; cases e)]
    exact e
  have eS : LiI.putT (upd H S (.lst (as.map V.ref))) as kvs S = some (.lst (as.map V.ref)) := by rw [LiI.putT_off as kvs _ hSn, upd_same]
  refine ⟨LiI.putT (upd H S (.lst (as.map V.ref))) as kvs, kp, newS, eS, atP, ?_⟩
  refine I.call' (ch := []) rfl ⟨fun b o q _ _ _ => hk b o q, fun b o q _ _ _ => ⟨o.slots, hk b o q⟩, fun b o q n _ => ?_, fun b o q _ => ⟨o, hk b o q⟩, fun b xs q => kp b _ q, fun b o u q => kp b _ q, fun b ps q => ⟨#[], by rw [kp b _ q]; simp⟩⟩ (fun b u q => ?_) I.bare fun b z => by simp at z
  · obtain ⟨z1, z2⟩ := low b o q
    rw [off b z1 z2]
    exact n
  · by_cases hb : b ∈ as
    · obtain ⟨j, pk, e1, e2, e3⟩ := LiI.paired_ix atP hb
      rw [e3] at q
      cases q
      obtain ⟨key, k, x, f1, f2, f3⟩ := hG.pairs j b e1
      obtain ⟨qv, g1, g2, g3⟩ := LiI.paired_get kv e2
      rw [f1] at g1
      cases g1
      have rk : RelV (kV pk.1) key := by
        rw [g2]
        exact relV_key (show keyIs k key = true from f2)
      exact ⟨by show 2 ≤ sizeLine; decide, [key, x], .cons rk (.cons g3 .nil), ⟨_, f3, rfl, _, rfl⟩⟩
    · by_cases hb2 : b = S
      · rw [hb2] at q ⊢
        rw [eS] at q
        cases q
        exact ⟨by rw [List.length_map]; omega, as.map Value.ref, 0, LiI.vals_refs as, hS⟩
      · rw [off b hb hb2] at q
        exact (I.hok b u q).stay (fun d v _ y => hk d v y) (fun d y => kp d _ y) fun d xs y => kp d _ y
theorem paired_pair {H : Hp} : ∀ {ts : List Addr} {kvs : List (Int × Int)}, Paired (fun (t : Addr) (q : L2.Key × V) => H t = some (.tup [kV q.1, q.2])) ts (intKV kvs) → Paired (PairAt H) (ts.map V.ref) kvs
  | _, [], .nil => .nil
  | _, _ :: _, .cons h t => .cons ⟨_, rfl, h⟩ (paired_pair t)
/-- sorted(d.items()) -/
def rSortIK (K : PySem.W.Frag) : List V → Hp → VK → Prop := fun vs H Q => ∃ (p a : Addr) (kvs : List (Int × Int)), vs = [.ref p] ∧ H p = some (itemsO p a) ∧ H a = some (.dK (intKV kvs)) ∧ SortedTo K Q kvs H
theorem cr_sortIK {K : PySem.W.Frag} (hc : X.calm = true) (e : X.K = K := by rfl) : CallR X (.builtin "sorted") (rSortIK K) := by
  subst e
  intro pins s σ H xs us Q I r h
  obtain ⟨p, a, kvs, rfl, hp, ha, k⟩ := h
  obtain rfl := Vals.ref1 r
  have view : s.heap.IsItemsView p a := (show ObjOk X.prog X.w H s.heap p (itemsO p a) from I.hok p _ hp).1
  obtain ⟨hz, hs0, vs, kv, hdo⟩ := I.hok a _ ha
  have lk : (intKV kvs).length = vs.length := Paired.length kv
  obtain ⟨o, es, ep, ho, hx, hdat, hko, hps, hnd⟩ := hdo
  have les : es.size = vs.length := by rw [← Array.length_toList]; exact hps.length
  have hh : X.A.handled = none := I.ok.hd hc
  refine DT.sortedI (es := es) (ep := ep) hh view ⟨o, ho, hx, hdat⟩ (by omega) fun h' tk as hk hlt hl hM => ?_
  have hG : PySem.W.KdxG (mixKind X.prog X.w) vs s.heap.objs.size h' as := by
    refine ⟨hM.rise, hM.above, fun j b hj => ?_⟩
    obtain ⟨en, he, hg⟩ := hM.pairs j b hj
    rw [← Array.getElem?_toList] at he
    have hjl : j < vs.length := by
      have := (List.getElem?_eq_some_iff.mp hj).1
      omega
    have hv : vs[j]? = some ((vs[j]).1, (vs[j]).2) := List.getElem?_eq_getElem hjl
    obtain ⟨q1, q2⟩ := hps.get? he hv
    exact ⟨en.key, (vs[j]).1, (vs[j]).2, hv, q1, by rw [hg, q2]⟩
  have hpush : ∀ b o, h'.get? b = some o → (h'.push { cls := .type "list", data := .seq (as.map Value.ref).toArray }).get? b = some o := fun b o e => Heap.get?_push_of_some _ e
  obtain ⟨H', k1, k2, k4, k5, J⟩ := items_laid2 (tk := tk) (S := h'.objs.size) I hz kv (fun b o e => hpush _ _ (hk b o e)) (Heap.get?_push_size _ rfl) (Nat.le_of_lt hlt)
    (fun z => Nat.lt_irrefl _ (hG.there z)) (by omega) ⟨hG.rise, hG.above, fun j a e => by
      obtain ⟨key, q, x, f1, f2, f3⟩ := hG.pairs j a e
      exact ⟨key, q, x, f1, f2, hpush _ _ f3⟩⟩
  have pp := paired_pair k5
  have st := mt_sortPO (X := { X with A := X.A.in1 }) pins _ σ H' (.ref h'.objs.size) [] (.ref h'.objs.size) [] (fun _ H2 => Q (.ref h'.objs.size) H2) (inv_around J _ rfl rfl) rfl .nil
    ⟨_, _, pairK H', rfl, rfl, k4, pair_mem pp, fun zs h1 h2 => ?_⟩
  · refine wpAny_mono st (fun u s' x => ?_) fun _ _ e => e
    obtain ⟨v, H2, J2, rv, q2⟩ := x
    exact ⟨.ref h'.objs.size, H2, inv_back J2 rfl rfl, rfl, q2⟩
  · refine k h'.objs.size (zs.map (pairK H')) zs _ k2 (fun b o e => ?_) upd_same ?_ ?_ (List.pairwise_map.mpr h1)
    · rw [upd_ne (ne_of_none e k2)]
      exact k1 b o e
    · have hd : ∀ y ∈ zs, PairAt (upd H' h'.objs.size (.lst zs)) y (pairK (upd H' h'.objs.size (.lst zs)) y) ∧ pairK (upd H' h'.objs.size (.lst zs)) y = pairK H' y := fun y hy => by
        obtain ⟨t, e1, e2⟩ := pair_mem pp y (h2.perm.mem_iff.mp hy)
        have nt : t ≠ h'.objs.size := fun z => by
          rw [z, k4] at e2
          cases e2
        have e3 : PairAt (upd H' h'.objs.size (.lst zs)) y (pairK H' y) := ⟨t, e1, by rw [upd_ne nt]; exact e2⟩
        have e4 := pairK_of e3
        exact ⟨by rw [e4]; exact e3, e4⟩
      have e5 : zs.map (pairK H') = zs.map (pairK (upd H' h'.objs.size (.lst zs))) := List.map_congr_left fun y hy => (hd y hy).2.symm
      rw [e5]
      exact pairs_dn (fun _ _ e => e) fun y hy => (hd y hy).1
    · rw [← pairK_map pp]
      exact h2.perm.map _
end
section
variable {K : PySem.W.Frag} {H : Hp} {Q : VK} {p : Addr} {kvs : List (L2.Key × V)} {i : Int} {v : V}
theorem r_items {σ : L2.St} {to : TE} {a : Addr} (h : H a = some (.dK kvs)) (k : ∀ p H', H p = none → Same H H' → H' p = some (itemsO p a) → Q (.ref p) H') : tyV K "dict" (.ref a) H ∧ rItemsK (.ref a) [] H Q :=
  ⟨.inr (.inr (.inl ⟨rfl, .inl ⟨_, h⟩⟩)), a, kvs, rfl, rfl, h, fun p hp => k p _ hp (But.new (S := []) hp).same upd_same⟩
/-! ### dicts with int keys -/
theorem r_dnew {σ : L2.St} (k : ∀ p H', H p = none → Same H H' → H' p = some (.dK []) → Q (.ref p) H') : tDNewK σ H Q := fun p hp => k p _ hp (But.new (S := []) hp).same upd_same
theorem r_dget2 {σ : L2.St} {td ty tx : TE} (k : td σ H fun x H1 => ∃ a, x = .ref a ∧ IsD H1 a ∧ ty σ H1 fun y H2 => tx σ H2 fun z H3 => ∃ o, DGet H3 a y o ∧ Q (o.getD z) H3) : tDGet2 td ty tx σ H Q := k
theorem r_dput {σ : L2.St} {td ty tv : TE} {D : Ends} (k : tv σ H fun v H1 => td σ H1 fun x H2 => ty σ H2 fun y H3 => ∃ a H4, x = .ref a ∧ DPut H3 a y v H4 ∧ D.nx σ H4) : sDPut td ty tv D σ H := k
theorem r_isD {a : Addr} {B : Addr → Prop} (h : H a = some (.dK kvs)) (k : B a) : ∃ b, V.ref a = .ref b ∧ IsD H b ∧ B b := ⟨a, rfl, .inl ⟨_, .inl h⟩, k⟩
end
def rMax2 : List V → Hp → VK → Prop := fun xs H Q => ∃ i j, xs = [.int i, .int j] ∧ Q (.int (if j > i then j else i)) H
theorem call_max2A {X : Cx} (hc : X.calm = true) : CallR X (.builtin "max") rMax2 := call_max2 hc
theorem r_max2 {H : Hp} {Q : VK} {i j : Int} (k : Q (.int (max i j)) H) : rMax2 [.int i, .int j] H Q := by
  refine ⟨i, j, rfl, ?_⟩
  have e : (if j > i then j else i) = max i j := by split <;> omega
  rw [e]; exact k
def rInt1 : List V → Hp → VK → Prop := fun xs H Q => (∃ j, xs = [.int j] ∧ Q (.int j) H) ∨ ∃ b, xs = [.bl b] ∧ Q (.int (if b then 1 else 0)) H
theorem r_int1 {H : Hp} {Q : VK} {i : Int} (k : Q (.int i) H) : rInt1 [.int i] H Q := .inl ⟨i, rfl, k⟩
theorem r_int1b {H : Hp} {Q : VK} {b : Bool} (k : Q (.int (if b then 1 else 0)) H) : rInt1 [.bl b] H Q := .inr ⟨b, rfl, k⟩
/-! ### int to int -/
def getI (m : List (Int × Int)) (k : Int) : Option Int := (m.find? fun q => decide (q.1 = k)).map (·.2)
def putI (m : List (Int × Int)) (k v : Int) : List (Int × Int) :=
  if (m.any fun q => decide (q.1 = k)) = true then m.map (fun q => if q.1 = k then (q.1, v) else q) else m ++ [(k, v)]
theorem valV_intKV {m : List (Int × Int)} {k : Int} : valV (intKV m) (.inl k) = (getI m k).map V.int := by
  unfold getI
  induction m with
  | nil => rfl
  | cons q m ih =>
    by_cases h : q.1 = k
    · rw [List.find?_cons_of_pos (by simpa using h)]
      exact valV_pos (p := ((Sum.inl q.1 : L2.Key), V.int q.2)) (by rw [h])
    · rw [List.find?_cons_of_neg (by simpa using h), ← ih]
      exact valV_neg (p := ((Sum.inl q.1 : L2.Key), V.int q.2)) (fun z => h (Sum.inl.inj z))
theorem getD_intKV {m : List (Int × Int)} {k j : Int} : (valV (intKV m) (.inl k)).getD (.int j) = .int ((getI m k).getD j) := by
  rw [valV_intKV]
  cases getI m k <;> rfl
theorem any_intKV {m : List (Int × Int)} {k : Int} : ((intKV m).any fun kv => decide (kv.1 = (.inl k : L2.Key))) = m.any fun q => decide (q.1 = k) := by
  unfold intKV
  rw [List.any_map]
  refine congrArg m.any (funext fun q => decide_eq_decide.mpr ⟨fun z => Sum.inl.inj z, fun z => congrArg Sum.inl z⟩)
theorem putK_intKV {m : List (Int × Int)} {k v : Int} : putK (intKV m) (.inl k) (.int v) = intKV (putI m k v) := by
  unfold putK putI
  rw [any_intKV]
  split
  · unfold intKV
    rw [List.map_map, List.map_map]
    refine List.map_congr_left fun q _ => ?_
    by_cases h : q.1 = k
    · have h2 : (Sum.inl q.1 : L2.Key) = .inl k := congrArg _ h
      simp only [Function.comp, if_pos h, if_pos h2]
    · have h2 : ¬ (Sum.inl q.1 : L2.Key) = .inl k := fun z => h (Sum.inl.inj z)
      simp only [Function.comp, if_neg h, if_neg h2]
  · unfold intKV
    rw [List.map_append]; rfl
theorem putI_length (m : List (Int × Int)) (k v : Int) : (putI m k v).length ≤ m.length + 1 := by
  unfold putI
  split
  · rw [List.length_map]; omega
  · rw [List.length_append]; exact Nat.le_refl _
section
variable {K : PySem.W.Frag} {H : Hp} {Q : VK} {a : Addr} {m : List (Int × Int)} {i j : Int}
theorem r_dgetI (h : H a = some (.dK (intKV m))) (k : Q (.int ((getI m i).getD j)) H) : ∃ o, DGet H a (.int i) o ∧ Q (o.getD (.int j)) H := by
  refine ⟨_, DGet.k (k := .inl i) h, ?_⟩
  rw [valV_intKV]
  cases hg : getI m i <;> rw [hg] at k <;> exact k
theorem r_dputI {R : Hp → Prop} (h : H a = some (.dK (intKV m))) (c : m.length < sizeLine) (k : ∀ H', But [a] H H' → H' a = some (.dK (intKV (putI m i j))) → R H') :
    ∃ b H4, V.ref a = .ref b ∧ DPut H b (.int i) (.int j) H4 ∧ R H4 := by
  refine ⟨a, _, rfl, DPut.k (k := .inl i) h (by unfold intKV; rw [List.length_map]; exact c), ?_⟩
  rw [putK_intKV]
  exact k _ (But.write h (fun z => z) (by simp)) upd_same
theorem getI_put {m : List (Int × Int)} {k v h : Int} : getI (putI m k v) h = if h = k then some v else getI m h := by
  unfold putI getI
  by_cases ha : (m.any fun q => decide (q.1 = k)) = true
  · rw [if_pos ha]
    induction m with
    | nil => simp at ha
    | cons q m ih =>
      rw [List.map_cons]
      by_cases hq : q.1 = k
      · rw [if_pos hq]
        by_cases hh : h = k
        · subst hh
          rw [if_pos rfl, List.find?_cons_of_pos (by simpa using hq)]; rfl
        · rw [if_neg hh]
          have hne : ¬ q.1 = h := fun z => hh (z ▸ hq)
          rw [List.find?_cons_of_neg (by simpa using hne), List.find?_cons_of_neg (by simpa using hne)]
          by_cases hm : (m.any fun q => decide (q.1 = k)) = true
          · rw [ih hm, if_neg hh]
          · have : m.map (fun q => if q.1 = k then (q.1, v) else q) = m := by
              conv => rhs; rw [← List.map_id m]
              refine List.map_congr_left fun z hz => ?_
              rw [if_neg fun e => hm (List.any_eq_true.mpr ⟨z, hz, decide_eq_true e⟩)]; rfl
            rw [this]
      · rw [if_neg hq]
        have hm : (m.any fun q => decide (q.1 = k)) = true := by
          rw [List.any_cons, decide_eq_false hq, Bool.false_or] at ha; exact ha
        by_cases hqh : q.1 = h
        · rw [List.find?_cons_of_pos (by simpa using hqh), List.find?_cons_of_pos (by simpa using hqh), if_neg fun z => hq (hqh.trans z)]
        · rw [List.find?_cons_of_neg (by simpa using hqh), List.find?_cons_of_neg (by simpa using hqh), ih hm]
  · rw [if_neg ha, List.find?_append]
    by_cases hh : h = k
    · subst hh
      rw [if_pos rfl]
      have : m.find? (fun q => decide (q.1 = h)) = none := List.find?_eq_none.mpr fun z hz e => ha (List.any_eq_true.mpr ⟨z, hz, e⟩)
      rw [this]
      simp
    · rw [if_neg hh]
      have : [(k, v)].find? (fun q => decide (q.1 = h)) = none := by simp [Ne.symm hh]
      rw [this, Option.or_none]
theorem putI_keys {m : List (Int × Int)} {k v : Int} (hm : (m.map (·.1)).Nodup) : ((putI m k v).map (·.1)).Nodup := by
  unfold putI
  split
  · rw [List.map_map]
    have : ((fun q : Int × Int => q.1) ∘ fun q => if q.1 = k then (q.1, v) else q) = fun q => q.1 := funext fun q => by
      by_cases h : q.1 = k <;> simp [h]
    rw [this]; exact hm
  · rename_i h
    rw [List.map_append]
    refine List.nodup_append.mpr ⟨hm, by simp, ?_⟩
    intro x hx y hy e
    obtain ⟨q, hq, rfl⟩ := List.mem_map.mp hx
    simp at hy
    exact h (List.any_eq_true.mpr ⟨q, hq, decide_eq_true (e.trans hy)⟩)
theorem lex_uniq {xs ys : List (Int × Int)} (h : xs.Perm ys) (h1 : xs.Pairwise Lex) (h2 : ys.Pairwise Lex) : xs = ys := by
  refine h.eq_of_pairwise (le := Lex) (fun a b _ _ q1 q2 => ?_) h1 h2
  have a1 := SrtO.lexB_no.mp q1
  have a2 := SrtO.lexB_no.mp q2
  exact Prod.ext (by omega) (by omega)
end
/-! ### slices -/
section
variable {σ : L2.St} {H : Hp} {K : PySem.W.Frag} {Q : VK} {te : TE} {tl th : TO} {xs : List V}
theorem r_sl {r : V → Option Int → Option Int → Hp → VK → Prop} (k : te σ H fun x H1 => tl σ H1 fun l H2 => th σ H2 fun u H3 => r x l u H3 Q) : tSl r te tl th σ H Q := k
theorem r_noPart {R : Option Int → Hp → Prop} (k : R none H) : tNoPart σ H R := k
theorem r_part {R : Option Int → Hp → Prop} (k : te σ H fun x H1 => ∃ i, x = .int i ∧ R (some i) H1) : tPart te σ H R := k
theorem r_exi {i : Int} {R : Int → Prop} (k : R i) : ∃ j, V.int i = .int j ∧ R j := ⟨i, rfl, k⟩
theorem cut_from {n : Nat} : cutV xs (some (n : Int)) none = xs.drop n := by
  unfold cutV
  rw [HT.sIx_nat, HT.sIx_none]
  by_cases h : n ≤ xs.length
  · rw [Nat.min_eq_left h]
    exact List.take_of_length_le (by rw [List.length_drop]; exact Nat.le_refl _)
  · rw [Nat.min_eq_right (by omega), Nat.sub_self, List.take_zero, List.drop_eq_nil_of_le (by omega)]
theorem cut_fromTo {n m : Nat} : cutV xs (some (n : Int)) (some (m : Int)) = (xs.drop n).take (m - n) := by
  unfold cutV
  rw [HT.sIx_nat, HT.sIx_nat]
  by_cases h : n ≤ xs.length
  · rw [Nat.min_eq_left h]
    by_cases h2 : m ≤ xs.length
    · rw [Nat.min_eq_left h2]
    · rw [Nat.min_eq_right (by omega), List.take_of_length_le (by rw [List.length_drop]; exact Nat.le_refl _), List.take_of_length_le (by rw [List.length_drop]; omega)]
  · rw [Nat.min_eq_right (a := n) (by omega), List.drop_eq_nil_of_le (Nat.le_refl _), List.drop_eq_nil_of_le (by omega), List.take_nil, List.take_nil]
theorem cut_to {m : Nat} : cutV xs none (some (m : Int)) = xs.take m := by
  unfold cutV
  rw [HT.sIx_none, HT.sIx_nat, List.drop_zero, Nat.sub_zero]
  by_cases h : m ≤ xs.length
  · rw [Nat.min_eq_left h]
  · rw [Nat.min_eq_right (by omega), List.take_of_length_le (Nat.le_refl _), List.take_of_length_le (by omega)]
end
/-! ### lists of ints -/
theorem layInts : ∀ ns : List Int, PyData.canLayAll0 (ns.map PyData.int) = true
  | [] => rfl
  | n :: ns => by
    show ((PyData.int n).canLay0 && PyData.canLayAll0 (ns.map PyData.int)) = true
    rw [layInts ns]; rfl
theorem depInts : ∀ ns : List Int, PyData.depthAll (ns.map PyData.int) = 0
  | [] => rfl
  | n :: ns => by
    show max (PyData.int n).depth (PyData.depthAll (ns.map PyData.int)) = 0
    rw [depInts ns]; rfl
theorem shapedInts (ns : List Int) : SeqAt.shaped (.list (ns.map PyData.int)) = true := by
  unfold SeqAt.shaped
  have h1 : (PyData.list (ns.map PyData.int)).canLay0 = true := layInts ns
  have h2 : (PyData.list (ns.map PyData.int)).depth ≤ 1 := by
    show PyData.depthAll (ns.map PyData.int) + 1 ≤ 1
    rw [depInts]; exact Nat.le_refl _
  rw [h1, decide_eq_true (by omega)]; rfl
theorem eqvInts : ∀ (ns ms : List Int), PyData.eqvAll (ns.map PyData.int) (ms.map PyData.int) = decide (ns = ms)
  | [], [] => rfl
  | [], _ :: _ => rfl
  | _ :: _, [] => rfl
  | n :: ns, m :: ms => by
    show (PyData.eqv (.int n) (.int m) && PyData.eqvAll (ns.map PyData.int) (ms.map PyData.int)) = _
    rw [eqvInts ns ms]
    have : PyData.eqv (.int n) (.int m) = decide (n = m) := by
      by_cases h : n = m
      · subst h; simp [PyData.eqv]
      · simp [PyData.eqv, h]
    rw [this, ← Bool.decide_and]
    exact decide_eq_decide.mpr (by simp)
theorem eqvListInts (ns ms : List Int) : PyData.eqv (.list (ns.map PyData.int)) (.list (ms.map PyData.int)) = decide (ns = ms) := by
  rw [← eqvInts]; rfl
theorem r_eqInts {K : PySem.W.Frag} {H : Hp} {Q : VK} {p q : Addr} {ns ms : List Int} (h1 : H p = some (.lst (ns.map V.int))) (h2 : H q = some (.lst (ms.map V.int))) (k : Q (.bl (decide (ns = ms))) H) : rEqA K (.ref p) (.ref q) H Q := by
  refine r_eqD (d := .list (ns.map PyData.int)) (e := .list (ms.map PyData.int)) ?_ ?_ (shapedInts ns) (shapedInts ms) (by rw [eqvListInts]; exact k)
  · exact (Dn.lst (S := []) h1 List.not_mem_nil DnAll.ints).dp
  · exact (Dn.lst (S := []) h2 List.not_mem_nil DnAll.ints).dp
theorem r_listItems {σ : L2.St} {H : Hp} {te : TE} {Q : VK} (k : te σ H fun x H1 => LiI.rItemsL x H1 Q) : LiI.tListItems te σ H Q := k
theorem r_itemsL {H : Hp} {Q : VK} {d : Addr} {kvs : List (Int × Int)} (h : H d = some (.dK (intKV kvs)))
    (k : ∀ p xs H', H p = none → Same H H' → H' p = some (.lst xs) → Paired (PairAt H') xs kvs → Q (.ref p) H') : LiI.rItemsL (.ref d) H Q :=
  ⟨d, _, rfl, h, fun H' p ts s hp _ _ hl hh => k p _ H' hp s hl (paired_pair hh)⟩
theorem r_par {i j : Nat} {ta : TA} {D : Ends} {σ : L2.St} {H : Hp} (k : ta σ H fun vs H1 => ∃ v w, vs = [v, w] ∧ D.nx ((σ.set i (some v)).set j (some w)) H1) : tPar i j ta D σ H := k
theorem r_ex2 {v w : V} {R : V → V → Prop} (k : R v w) : ∃ v' w', [v, w] = [v', w'] ∧ R v' w' := ⟨v, w, rfl, k⟩
end J

set_option Elab.async false
set_option linter.all false
set_option maxRecDepth 100000
set_option maxHeartbeats 4000000
namespace J
open PySem PySem.Spec L2 PyProof.Rows
/-! ### statements, expressions that no run reaches -/
theorem ps_dead {X : Cx} {st : Stmt} : PS X st (fun _ _ _ => False) := ⟨fun _ _ _ _ _ _ h => h.elim⟩
theorem pe_dead {X : Cx} {e : Expr} : PE X e (fun _ _ _ => False) := ⟨fun _ _ _ _ _ _ h => h.elim⟩
/-! ### types of data -/
def tyD : PyData → String
  | .none => "NoneType"
  | .bool _ => "bool"
  | .int _ => "int"
  | .str _ => "str"
  | .list _ => "list"
  | .tuple _ => "tuple"
  | .dict _ => "dict"
def isIntD : PyData → Bool
  | .int _ => true
  | .bool _ => true
  | _ => false
def isBoolD : PyData → Bool
  | .bool _ => true
  | _ => false
def isStrD : PyData → Bool
  | .str _ => true
  | _ => false
def isTupD : PyData → Bool
  | .tuple _ => true
  | _ => false
def isListD : PyData → Bool
  | .list _ => true
  | _ => false
theorem kit_int (d : PyData) : kitB (tyD d) "int" = some (isIntD d) := by cases d <;> (simp only [tyD, isIntD, isBoolD, isStrD, isTupD, isListD]; decide +kernel)
theorem kit_bool (d : PyData) : kitB (tyD d) "bool" = some (isBoolD d) := by cases d <;> (simp only [tyD, isIntD, isBoolD, isStrD, isTupD, isListD]; decide +kernel)
theorem kit_str (d : PyData) : kitB (tyD d) "str" = some (isStrD d) := by cases d <;> (simp only [tyD, isIntD, isBoolD, isStrD, isTupD, isListD]; decide +kernel)
theorem kit_tup (d : PyData) : kitB (tyD d) "tuple" = some (isTupD d) := by cases d <;> (simp only [tyD, isIntD, isBoolD, isStrD, isTupD, isListD]; decide +kernel)
theorem kit_list (d : PyData) : kitB (tyD d) "list" = some (isListD d) := by cases d <;> (simp only [tyD, isIntD, isBoolD, isStrD, isTupD, isListD]; decide +kernel)
theorem tyx_of {K : PySem.W.Frag} {S : List Addr} {H : Hp} {v : V} {d : PyData} (h : Dn K S H v d) : TyX K H v (.type (tyD d)) := by
  cases h with
  | non => exact .base .non
  | bl b => exact .base (.bl b)
  | int i => exact .base (.int i)
  | str x => exact .base (.str x)
  | lst h1 _ _ => exact .base (.lst h1)
  | tup h1 _ =>
    rcases h1 with (h1 | ⟨o, h1⟩) | h1
    · exact .base (.tup h1)
    · exact .fTuple h1
    · obtain ⟨o, _, _, hk, hc, _⟩ := h1
      exact .kTuple hk hc
section
variable {X : Cx} {K : PySem.W.Frag} {CX : CXT} {k j n : Nat} {C : Addr} {x m T : Str} {sp : Sp} {e o : Expr} {es : List Expr} {ta te : TE} {t tk : TA} {p pos apos : Pos} {kws : List Keyword} {ks : List Str}
theorem pe_tyN {T : String} (hg : Gl X x) (hm : X.mg x = none) (hv : bootBuiltins x = some (.type T)) (hn : x ≠ "__name__" := by decide) (hd : (x == ("__debug__" : Str)) = false := by decide) : PE X (.Name x pos) (tC (.ty T)) :=
  pe_bltn hg hm hv rfl hn hd
theorem pe_gint {i : Int} {tk : Tok} (hg : Gl X x) (hm : X.mg x = some (.int i tk)) (hd : (x == ("__debug__" : Str)) = false := by decide) : PE X (.Name x pos) (tC (.int i)) := pe_glob hg hm ⟨_, rfl⟩ hd
theorem pe_gintE {i : Int} (hg : Gl X x) (hm : ∃ tk, X.mg x = some (.int i tk)) (hd : (x == ("__debug__" : Str)) = false := by decide) : PE X (.Name x pos) (tC (.int i)) := by
  obtain ⟨tk, hm⟩ := hm
  exact pe_gint hg hm hd
theorem call_isiA (e : X.K = K := by rfl) : CallR X (.builtin "isinstance") (rIsi K) := by subst e; exact call_isi
/-- a def called with keywords -/
structure ClK (P : Program) (w : World) (K : PySem.W.Frag) (mg : Str → Option Value) (base : Heap) (CX : CXT) (k : Nat) (x : Str) (n : Nat) (ks : List Str) (sp : Sp) : Prop where
  ex : ∃ f fd ps g gV, FnOk P w K mg base CX k f fd ps sp ∧ mg x = some (.ref f) ∧ PySem.W.keepIn K (.ref f) = true ∧ KBn K fd ps n ks g gV ∧ gV = fun vs zs => vs ++ zs
def tKw (n m : Nat) (sp : Sp) (t tk : TA) : TE := fun σ H Q => t σ H fun vs H1 => tk σ H1 fun zs H2 => vs.length = n ∧ zs.length = m ∧ sp (vs ++ zs) H2 Q E0
theorem pe_clK (c : ClK X.prog X.w X.K X.mg X.base CX0 k x n ks sp) (hr : Room j X.A) (hk : k ≤ j) (ha : PA X (e :: es) t) (hkw : PK X kws tk) (hg : Gl X x := by rfl)
    (hall : (backToKw pos (keywordEach kws X.env)).all (·.1.isSome) = true := by rfl) (hks : (backToKw pos (keywordEach kws X.env)).filterMap (·.1) = ks := by rfl)
    (hdb : (x == ("__debug__" : Str)) = false := by decide) (he : starEach (e :: es) X.env = (false, eval e X.env) :: starEach es X.env := by rfl)
    (hpl : ((backTo pos (starEach (e :: es) X.env)).any (·.1) || (backToKw pos (keywordEach kws X.env)).any (·.1.isNone)) = false := by rfl) :
    PE X (.Call (.Name x p) (e :: es) kws pos) (tKw n ks.length sp t tk) := by
  obtain ⟨f, fd, ps, g, gV, F, hm, kp, hb, eg⟩ := c.ex
  have h := pe_callN F (hr.mono hk) hg hm kp hb pass0 ha hkw hall hks hdb he hpl (p := p)
  rw [eg] at h
  exact h
theorem pe_cld {dvs : List V} (c : C8.Cal X.prog X.w X.K X.mg X.base k x sp dvs) (hr : Room j X.A) (hk : k ≤ j) (ha : PA X (e :: es) t) (hg : Gl X x := by rfl)
    (hdb : (x == ("__debug__" : Str)) = false := by decide) (he : starEach (e :: es) X.env = (false, eval e X.env) :: starEach es X.env := by rfl) (hpl : (backTo pos (starEach es X.env)).any (·.1) = false := by rfl) :
    PE X (.Call (.Name x p) (e :: es) [] pos) (tCall sp dvs E0 t) := C8.pe_c c hr hk hg ha hdb he hpl
theorem ps_fldA {value : Expr} {f : Str} {tv : TE} {pos' : Pos} (ha : PE X o ta) (hv : PE X value tv) (hs : swapsWith value (some (.Attribute o f pos')) pos.line X.env = pure false := by rfl) (e : X.K = K := by rfl) :
    PS X (.Assign [.Attribute o f pos'] value pos) (sFld K ta tv f) := by subst e; exact ps_fld ha hv hs
theorem ps_fldaugA {value : Expr} {f : Str} {tv : TE} {op : Operator} {tpos : Pos} {rd : V → V → Hp → VK → Prop} (ha : PE X o ta) (hv : PE X value tv) (hop : InOp X op rd) (e : X.K = K := by rfl) :
    PS X (.AugAssign (.Attribute o f tpos) op value pos) (sFldAug K ta tv rd f) := by subst e; exact ps_fldaug ha hv hop
theorem in_ofR {op : Operator} {r : R2} (h : OpR X (inplaceOp op) r) : InOp X op r := h
theorem pi_zipB {e2 : Expr} {elts : List Expr} {kk : Nat} {tpos : Pos} {tz : TA} (hg : Gl X "zip") (hm : X.mg "zip" = none) (ha : PA X [e, e2] tz)
    (hs : starEach [e, e2] X.env = (false, eval e X.env) :: starEach [e2] X.env := by rfl) (hpl : (backTo pos (starEach [e2] X.env)).any (·.1) = false := by rfl) (ek : X.K = K := by rfl) :
    PI X (.Tuple elts kk tpos) (.Call (.Name "zip" p) [e, e2] [] pos) (RZ.iZipA K tz) := by subst ek; exact RZ.pi_zipA hg hm ha hs hpl
end
section
variable {σ : L2.St} {H : Hp} {K : PySem.W.Frag} {Q : VK} {S : List Addr} {a C dx : Addr} {fs : List (Str × V)} {f m : Str} {v x : V} {d : PyData} {ta te tv : TE} {t tk : TA} {sp : Sp} {dvs : List V} {E : XK} {D : Ends}
/-! ### isinstance -/
theorem r_isi {T : String} {b : Bool} (h : Dn K S H x d) (e : kitB (tyD d) T = some b) (k : Q (.bl b) H) : rIsi K [x, .ty T] H Q :=
  ⟨x, _, _, _, b, rfl, .ty T, tyx_of h, kit_ty e, k⟩
theorem r_isInt (h : Dn K S H x d) (k : Q (.bl (isIntD d)) H) : rIsi K [x, .ty "int"] H Q := r_isi h (kit_int d) k
theorem r_isBool (h : Dn K S H x d) (k : Q (.bl (isBoolD d)) H) : rIsi K [x, .ty "bool"] H Q := r_isi h (kit_bool d) k
theorem r_isStr (h : Dn K S H x d) (k : Q (.bl (isStrD d)) H) : rIsi K [x, .ty "str"] H Q := r_isi h (kit_str d) k
theorem r_isTup (h : Dn K S H x d) (k : Q (.bl (isTupD d)) H) : rIsi K [x, .ty "tuple"] H Q := r_isi h (kit_tup d) k
theorem r_isList (h : Dn K S H x d) (k : Q (.bl (isListD d)) H) : rIsi K [x, .ty "list"] H Q := r_isi h (kit_list d) k
/-! ### fields, methods, new instances -/
def FldAt (K : PySem.W.Frag) (f : Str) (x : V) (H : Hp) (Q : VK) : Prop := ∃ a C dx fs v, x = .ref a ∧ H a = some (.ins C dx fs) ∧ Cls K C ∧ NoAttr K C f ∧ fs.lookup f = some v ∧ Q v H
theorem r_fld (k : ta σ H fun x H1 => FldAt K f x H1 Q) : tFld K ta f σ H Q := k
theorem r_fldAt (h : H a = some (.ins C dx fs)) (c : Cls K C) (n : NoAttr K C f) (l : fs.lookup f = some v) (k : Q v H) : FldAt K f (.ref a) H Q := ⟨a, C, dx, fs, v, rfl, h, c, n, l, k⟩
def SetAt (K : PySem.W.Frag) (f : Str) (y : V) (x : V) (H : Hp) (R : Hp → Prop) : Prop := ∃ a C dx fs, x = .ref a ∧ H a = some (.ins C dx fs) ∧ Cls K C ∧ NoAttr K C f ∧ fs.length < 1000 ∧ R (upd H a (.ins C dx (putF f y fs)))
theorem r_sfld (k : tv σ H fun y H1 => ta σ H1 fun x H2 => SetAt K f y x H2 fun H3 => D.nx σ H3) : sFld K ta tv f D σ H := k
theorem r_setAt {R : Hp → Prop} {y : V} (h : H a = some (.ins C dx fs)) (c : Cls K C) (n : NoAttr K C f) (l : fs.length < 1000) (k : ∀ H', But [a] H H' → H' a = some (.ins C dx (putF f y fs)) → R H') : SetAt K f y (.ref a) H R :=
  ⟨a, C, dx, fs, rfl, h, c, n, l, k _ (But.write h (fun z => z) (by simp)) upd_same⟩
def AugAt (K : PySem.W.Frag) (f : Str) (σ : L2.St) (tv : TE) (rd : R2) (x : V) (H : Hp) (R : Hp → Prop) : Prop := ∃ a C dx fs v, x = .ref a ∧ H a = some (.ins C dx fs) ∧ Cls K C ∧ NoAttr K C f ∧ fs.lookup f = some v ∧
  tv σ H fun y H2 => rd v y H2 fun z H3 => ∃ dx' fs', H3 a = some (.ins C dx' fs') ∧ fs'.length < 1000 ∧ R (upd H3 a (.ins C dx' (putF f z fs')))
theorem r_sfldaug {rd : R2} (k : ta σ H fun x H1 => AugAt K f σ tv rd x H1 fun H3 => D.nx σ H3) : sFldAug K ta tv rd f D σ H := k
def PutAt (f : Str) (a C : Addr) (z : V) (H : Hp) (R : Hp → Prop) : Prop := ∃ dx' fs', H a = some (.ins C dx' fs') ∧ fs'.length < 1000 ∧ R (upd H a (.ins C dx' (putF f z fs')))
theorem r_putAt {R : Hp → Prop} {z : V} (h : H a = some (.ins C dx fs)) (l : fs.length < 1000) (k : ∀ H', But [a] H H' → H' a = some (.ins C dx (putF f z fs)) → R H') : PutAt f a C z H R :=
  ⟨dx, fs, h, l, k _ (But.write h (fun z => z) (by simp)) upd_same⟩
theorem r_augAt {R : Hp → Prop} {rd : R2} (h : H a = some (.ins C dx fs)) (c : Cls K C) (n : NoAttr K C f) (l : fs.lookup f = some v) (k : tv σ H fun y H2 => rd v y H2 fun z H3 => PutAt f a C z H3 R) : AugAt K f σ tv rd (.ref a) H R :=
  ⟨a, C, dx, fs, v, rfl, h, c, n, l, k⟩
def MethAt (C : Addr) (m : Str) (sp : Sp) (dvs : List V) (E : XK) (σ : L2.St) (t : TA) (x : V) (H : Hp) (Q : VK) : Prop := ∃ a dx fs, x = .ref a ∧ H a = some (.ins C dx fs) ∧ fs.lookup m = none ∧ t σ H fun vs H2 => sp (x :: (vs ++ dvs)) H2 Q E
theorem r_meth (k : ta σ H fun x H1 => MethAt C m sp dvs E σ t x H1 Q) : tMeth C m sp dvs E ta t σ H Q := k
theorem r_methAt (h : H a = some (.ins C dx fs)) (l : fs.lookup m = none) (k : t σ H fun vs H2 => sp (.ref a :: (vs ++ dvs)) H2 Q E) : MethAt C m sp dvs E σ t (.ref a) H Q := ⟨a, dx, fs, rfl, h, l, k⟩
def MakeAt (C : Addr) (sp : Sp) (dvs : List V) (E : XK) (vs : List V) (H : Hp) (Q : VK) : Prop := ∀ x dx, H x = none → H dx = none → dx ≠ x → sp (.ref x :: (vs ++ dvs)) (upd (upd H dx (.own x)) x (.ins C dx [])) (fun v H2 => v = .non ∧ Q (.ref x) H2) E
theorem r_make (k : t σ H fun vs H1 => MakeAt C sp dvs E vs H1 Q) : tMake C sp dvs E t σ H Q := k
theorem r_makeAt {vs : List V} (k : ∀ x dx H', H x = none → Same H H' → H' x = some (.ins C dx []) → sp (.ref x :: (vs ++ dvs)) H' (fun v H2 => v = .non ∧ Q (.ref x) H2) E) : MakeAt C sp dvs E vs H Q := fun x dx hx hd hn =>
  k x dx _ hx (fun b o e => by
    rw [upd_ne (ne_of_none e hx), upd_ne (ne_of_none e hd)]; exact e) upd_same
theorem r_callD (k : t σ H fun vs H1 => sp (vs ++ dvs) H1 Q E) : tCall sp dvs E t σ H Q := k
def KwAt (n m : Nat) (sp : Sp) (vs zs : List V) (H : Hp) (Q : VK) : Prop := vs.length = n ∧ zs.length = m ∧ sp (vs ++ zs) H Q E0
theorem r_kw {n m : Nat} (k : t σ H fun vs H1 => tk σ H1 fun zs H2 => KwAt n m sp vs zs H2 Q) : tKw n m sp t tk σ H Q := k
theorem r_kwAt {vs zs : List V} {n m : Nat} (h : vs.length = n) (h' : zs.length = m) (k : sp (vs ++ zs) H Q E0) : KwAt n m sp vs zs H Q := ⟨h, h', k⟩
/-! ### and, or as values, chains, is None -/
theorem r_isN (k : Q (.bl (decide (x = .non))) H) : (fun x y H (Q : VK) => y = V.non ∧ Q (.bl (decide (x = .non))) H) x .non H Q := ⟨rfl, k⟩
end
section
variable {σ : L2.St} {H : Hp} {K : PySem.W.Frag} {Q : VK} {ta tb te : TE} {x y : V} {a b : Addr} {xs ys : List V} {t : TA}
theorem r_andV (k : ta σ H fun x H1 => ∃ c, x = .bl c ∧ if c = true then tb σ H1 Q else Q (.bl false) H1) : tAndV ta tb σ H Q := k
theorem r_orV (k : ta σ H fun x H1 => ∃ c, x = .bl c ∧ if c = true then Q (.bl true) H1 else tb σ H1 Q) : tOrV ta tb σ H Q := k
theorem r_notV (k : ta σ H fun x H1 => ∃ c, x = .bl c ∧ Q (.bl (!c)) H1) : tNotV ta σ H Q := k
theorem r_leI {i j : Int} (k : Q (.bl (decide (i ≤ j))) H) : rI0 (fun i j => .bl (decide (i ≤ j))) (.int i) (.int j) H Q := ⟨i, j, rfl, rfl, k⟩
theorem r_chain {r r' : R2} {tc : TE} (k : ta σ H fun x H1 => tb σ H1 fun y H2 => r x y H2 fun z H3 => ∃ k, z = .bl k ∧ (if k = true then tc σ H3 fun w' H4 => r' y w' H4 Q else Q (.bl false) H3)) : tChain r r' ta tb tc σ H Q := k
/-- truth of a bool -/
theorem r_truB {c : Bool} {R : Bool → Prop} (k : R c) : ∃ n, TruV K (.bl c) H n ∧ R n := ⟨c, rfl, k⟩
theorem r_truA {R : Bool → Hp → Prop} (k : ta σ H fun x H' => ∃ k, TruV K x H' k ∧ R k H') : tTruA K ta σ H R := k
/-! ### zip in a comprehension -/
def LcZ (K : PySem.W.Frag) (g : TG) (tt : TT) (te : TE) (vs : List Nat) (σ : L2.St) (Q : VK) (ws : List V) (H : Hp) : Prop :=
  ∃ a b xs ys, ws = [.ref a, .ref b] ∧ ((SqL K H a xs ∧ SqL K H b ys ∧ LcG (Itz K a b) g tt te vs σ Q H) ∨ (SqT K H a xs ∧ SqT K H b ys ∧ LcG (RZ.ItzT K a b) g tt te vs σ Q H))
theorem r_lcZ {g : TG} {tt : TT} {vs : List Nat} (k : t σ H fun ws H1 => LcZ K g tt te vs σ Q ws H1) : tLc (RZ.iZipA K t) g tt te vs σ H Q := k
theorem lcZT {g : TG} {tt : TT} {vs : List Nat} (ha : SqT K H a xs) (hb : SqT K H b ys) (mk : ∀ l H0, H l = none → Same H H0 → H0 l = some (.lst []) → ∃ Pv : Nat → Hp → Prop, Pv 0 H0 ∧ (∀ i H, Pv i H → SqT K H a xs ∧ SqT K H b ys) ∧
      (∀ i x y T H H', xs[i]? = some x → ys[i]? = some y → Pv i H → H T = none → Same H H' → H' T = some (.tup [x, y]) → LTurn g tt te vs l (Pv (i + 1)) (.ref T) σ H') ∧ ∀ H, Pv (min xs.length ys.length) H → Q (.ref l) H) :
    LcZ K g tt te vs σ Q [.ref a, .ref b] H := by
  refine ⟨a, b, xs, ys, rfl, .inr ⟨ha, hb, fun l hl => ?_⟩⟩
  obtain ⟨Pv, h0, h1, h2, h3⟩ := mk l _ hl (But.new (S := []) hl).same upd_same
  refine ⟨fun i m H => m = min xs.length ys.length - i ∧ i ≤ min xs.length ys.length ∧ Pv i H, ⟨_, rfl, Nat.zero_le _, h0⟩, ?_⟩
  rintro i m H ⟨rfl, hi, p⟩
  obtain ⟨q1, q2⟩ := h1 i H p
  by_cases hlt : i < min xs.length ys.length
  · have e1 : xs[i]? = some xs[i] := List.getElem?_eq_getElem (by omega)
    have e2 : ys[i]? = some ys[i] := List.getElem?_eq_getElem (by omega)
    refine .inr ⟨⟨xs, ys, _, _, q1, q2, e1, e2⟩, Pv (i + 1), fun H' p' => ⟨_, by omega, rfl, by omega, p'⟩, fun v H' y => ?_⟩
    obtain ⟨T, x, z, rfl, hT, rfl, f1, f2⟩ := y
    exact h2 i x z T H _ (f1 xs q1) (f2 ys q2) p hT (But.new (S := []) hT).same upd_same
  · have e : i = min xs.length ys.length := by omega
    refine .inl ⟨⟨xs, ys, q1, q2, by omega⟩, h3 H ?_⟩
    rw [← e]; exact p
end
section
variable {H : Hp} {K : PySem.W.Frag} {Q : VK} {p : Addr} {xs : List V}
/-- t[lo:hi] of a tuple -/
theorem r_slT {lo hi : Option Int} (h : SqT K H p xs) (k : ∀ l H', Same H H' → SqT K H' l (cutV xs lo hi) → Q (.ref l) H') : rSlAny K (.ref p) lo hi H Q := by
  refine .inr ⟨p, xs, rfl, h, fun c => ?_, fun c l hl => k l _ (But.new (S := []) hl).same (SqT.of upd_same)⟩
  have e : cutV xs lo hi = xs := by
    unfold cutV
    rw [c.1, c.2, List.drop_zero, Nat.sub_zero, List.take_of_length_le (Nat.le_refl _)]
  exact k p H (fun _ _ e => e) (by rw [e]; exact h)
end
theorem at0 {a : V} {xs : List V} : atI (a :: xs) 0 = some a := atI_nat (xs := a :: xs) (j := 0) rfl
theorem at1 {a b : V} {xs : List V} : atI (a :: b :: xs) 1 = some b := atI_nat (xs := a :: b :: xs) (j := 1) rfl
theorem at2 {a b c : V} {xs : List V} : atI (a :: b :: c :: xs) 2 = some c := atI_nat (xs := a :: b :: c :: xs) (j := 2) rfl
def rIsNn : R2 := fun x y H Q => y = .non ∧ Q (.bl (decide (x = .non))) H
def rNotNn : R2 := fun x y H Q => y = .non ∧ Q (.bl (!decide (x = .non))) H
theorem op_isNA {X : Cx} : OpR X (compareOp .Is) rIsNn := op_isN
theorem op_notNA {X : Cx} : OpR X (compareOp .IsNot) rNotNn := op_notN
theorem r_isNn {x : V} {H : Hp} {Q : VK} (k : Q (.bl (decide (x = .non))) H) : rIsNn x .non H Q := ⟨rfl, k⟩
theorem r_notNn {x : V} {H : Hp} {Q : VK} (k : Q (.bl (!decide (x = .non))) H) : rNotNn x .non H Q := ⟨rfl, k⟩
end J

set_option Elab.async false
set_option linter.all false
set_option maxRecDepth 100000
set_option maxHeartbeats 4000000
namespace J
open PySem L2 PyProof.Rows
/-! ### numbers, values -/
def intB : PyData → Bool
  | .int _ => true
  | _ => false
def betB (d : PyData) (lo hi : Int) : Bool := match d with
  | .int i => decide (lo ≤ i) && decide (i ≤ hi)
  | _ => false
mutual
def valB : PyData → Nat → Bool
  | .tuple xs, k => decide (k < 8) && valsB xs (k + 1)
  | .int _, _ => true
  | .str _, _ => true
  | _, _ => false
def valsB : List PyData → Nat → Bool
  | [], _ => true
  | x :: xs, k => valB x k && valsB xs k
end
theorem valsB_all {k : Nat} : ∀ {xs : List PyData}, valsB xs k = xs.all fun x => valB x k
  | [] => rfl
  | x :: xs => by
    show (valB x k && valsB xs k) = _
    rw [valsB_all]; rfl
mutual
theorem valB_nol : ∀ (d : PyData) (k : Nat), valB d k = true → noL d = true
  | .tuple xs, k, h => by
    have h2 : (decide (k < 8) && valsB xs (k + 1)) = true := h
    rw [Bool.and_eq_true] at h2
    exact valsB_nol xs (k + 1) h2.2
  | .int _, _, _ => rfl
  | .str _, _, _ => rfl
  | .none, _, h => rfl
  | .bool _, _, h => rfl
  | .list _, _, h => by simp [valB] at h
  | .dict _, _, h => by simp [valB] at h
theorem valsB_nol : ∀ (ds : List PyData) (k : Nat), valsB ds k = true → noLs ds = true
  | [], _, _ => rfl
  | x :: xs, k, h => by
    have h2 : (valB x k && valsB xs k) = true := h
    rw [Bool.and_eq_true] at h2
    show (noL x && noLs xs) = true
    rw [valB_nol x k h2.1, valsB_nol xs k h2.2]; rfl
end
theorem noLs_all : ∀ {xs : List PyData}, noLs xs = true ↔ ∀ x ∈ xs, noL x = true
  | [] => by simp [noLs]
  | x :: xs => by
    have ih := noLs_all (xs := xs)
    show (noL x && noLs xs) = true ↔ _
    rw [Bool.and_eq_true, ih]
    simp
theorem noLs_map {α : Type} {f : α → PyData} {xs : List α} (h : ∀ x ∈ xs, noL (f x) = true) : noLs (xs.map f) = true :=
  noLs_all.mpr fun d hd => by
    obtain ⟨x, hx, rfl⟩ := List.mem_map.mp hd
    exact h x hx
section
variable {K : PySem.W.Frag} {S S' T : List Addr} {H H' : Hp} {v : V} {d : PyData} {vs : List V} {ds : List PyData}
/-- data without lists stays whatever else changes -/
theorem Dn.nlb (h : Dn K S H v d) (n : noL d = true) (b : But T H H') : Dn K S' H' v d :=
  ((h.any n (T := T)).but b fun _ q => q).any n
theorem DnAll.nlb (h : DnAll K S H vs ds) (n : noLs ds = true) (b : But T H H') : DnAll K S' H' vs ds :=
  ((h.any n (T := T)).but b fun _ q => q).any n
end
/-! ### no tuple of more than a million items -/
mutual
def slim : PyData → Bool
  | .tuple xs => decide (xs.length ≤ 1000000) && slims xs
  | .list xs => decide (xs.length ≤ 1000000) && slims xs
  | _ => true
def slims : List PyData → Bool
  | [] => true
  | x :: xs => slim x && slims xs
end
theorem slims_mem {xs : List PyData} {d : PyData} (h : slims xs = true) (hd : d ∈ xs) : slim d = true := by
  induction xs with
  | nil => simp at hd
  | cons x xs ih =>
    have h2 : (slim x && slims xs) = true := h
    rw [Bool.and_eq_true] at h2
    rcases List.mem_cons.mp hd with e | hd
    · rw [e]; exact h2.1
    · exact ih h2.2 hd
theorem slim_tup {xs : List PyData} (h : slim (.tuple xs) = true) : xs.length ≤ 1000000 ∧ slims xs = true := by
  have h2 : (decide (xs.length ≤ 1000000) && slims xs) = true := h
  rw [Bool.and_eq_true, decide_eq_true_iff] at h2
  exact h2
/-! ### frames over sets of addresses -/
/-- none of them is in use -/
def Fr (S : List Addr) (H : Hp) : Prop := ∀ s ∈ S, H s = none
/-- no address of both -/
def Dj (S T : List Addr) : Prop := ∀ s ∈ S, s ∉ T
section
variable {S T U : List Addr} {H H' H1 : Hp} {a : Addr}
theorem Dj.symm (h : Dj S T) : Dj T S := fun t ht hs => h t hs ht
theorem Dj.nil : Dj S [] := fun _ _ h => nomatch h
theorem Dj.nil' : Dj [] S := fun _ h => nomatch h
theorem Dj.cons (h : a ∉ S) (k : Dj S T) : Dj S (a :: T) := fun s hs ht => (List.mem_cons.mp ht).elim (fun e => h (e ▸ hs)) (k s hs)
theorem Dj.of_fr (h : Fr S H) (l : Live T H) : Dj S T := fun s hs ht => l s ht (h s hs)
theorem ni_fr (h : Fr S H) (l : H a ≠ none) : a ∉ S := fun z => l (h a z)
theorem bc_frs (h : Fr T H) : ∀ t ∈ T, t ∈ S ∨ H t = none := fun t ht => .inr (h t ht)
theorem bc_self : ∀ t ∈ S, t ∈ S ∨ H t = none := fun _ h => .inl h
theorem bc_sub (h : ∀ t ∈ T, t ∈ S) : ∀ t ∈ T, t ∈ S ∨ H t = none := fun t ht => .inl (h t ht)
theorem fr_back (h : Fr S H') (l : Le H H') : Fr S H := fun s hs => fr_le l (h s hs)
end
/-- what a block may hold here -/
def blockB (v : PyData) : Bool := valB v 0 && (slim v && v.canLay0)
theorem blockB_val {v : PyData} (h : blockB v = true) : valB v 0 = true := by
  unfold blockB at h; rw [Bool.and_eq_true] at h; exact h.1
theorem blockB_slim {v : PyData} (h : blockB v = true) : slim v = true := by
  unfold blockB at h; rw [Bool.and_eq_true, Bool.and_eq_true] at h; exact h.2.1
theorem blockB_lay {v : PyData} (h : blockB v = true) : v.canLay0 = true := by
  unfold blockB at h; rw [Bool.and_eq_true, Bool.and_eq_true] at h; exact h.2.2
theorem blockB_nol {v : PyData} (h : blockB v = true) : noL v = true := valB_nol v 0 (blockB_val h)
mutual
theorem valB_dep : ∀ (d : PyData) (k : Nat), valB d k = true → d.depth + k ≤ 9 + k ∧ (d.depth = 0 ∨ d.depth + k ≤ 9)
  | .tuple xs, k, h => by
    have h2 : (decide (k < 8) && valsB xs (k + 1)) = true := h
    rw [Bool.and_eq_true, decide_eq_true_iff] at h2
    have h3 := valsB_dep xs (k + 1) h2.2
    have e : (PyData.tuple xs).depth = PyData.depthAll xs + 1 := rfl
    rw [e]
    omega
  | .int _, _, _ => ⟨by show 0 + _ ≤ _; omega, .inl rfl⟩
  | .str _, _, _ => ⟨by show 0 + _ ≤ _; omega, .inl rfl⟩
  | .none, _, h => by simp [valB] at h
  | .bool _, _, h => by simp [valB] at h
  | .list _, _, h => by simp [valB] at h
  | .dict _, _, h => by simp [valB] at h
theorem valsB_dep : ∀ (ds : List PyData) (k : Nat), valsB ds k = true → PyData.depthAll ds = 0 ∨ PyData.depthAll ds + k ≤ 9
  | [], _, _ => .inl rfl
  | x :: xs, k, h => by
    have h2 : (valB x k && valsB xs k) = true := h
    rw [Bool.and_eq_true] at h2
    have h3 := valB_dep x k h2.1
    have h4 := valsB_dep xs k h2.2
    have e : PyData.depthAll (x :: xs) = max x.depth (PyData.depthAll xs) := rfl
    rw [e]
    omega
end
theorem blockB_shaped {v : PyData} (h : blockB v = true) : SeqAt.shaped v = true := by
  have h1 := (valB_dep v 0 (blockB_val h)).1
  unfold SeqAt.shaped
  rw [blockB_lay h, decide_eq_true (by omega)]; rfl
/-! ### disks -/
structure DM where
  first : List PyData
  safe : List PyData
  writes : List (Int × PyData)
  deeds : List (Option (Int × PyData))
def dWr (w : Int × PyData) : PyData := .tuple [.int w.1, w.2]
def dEv : Option (Int × PyData) → PyData
  | some w => .tuple [.str "write", .int w.1, w.2]
  | none => .tuple [.str "flush"]
def zeros (n : Nat) : List PyData := List.replicate n (.int 0)
def DM.new (n : Nat) : DM := ⟨zeros n, zeros n, [], []⟩
def lastW (ws : List (Int × PyData)) (b : Int) (d : PyData) : PyData := ws.foldl (fun acc w => if w.1 = b then w.2 else acc) d
def DM.read (D : DM) (b : Int) : PyData := lastW D.writes b (D.safe.getD b.toNat .none)
def DM.write (D : DM) (b : Int) (v : PyData) : DM := { D with writes := D.writes ++ [(b, v)], deeds := D.deeds ++ [some (b, v)] }
def putAll (ws : List (Int × PyData)) (s : List PyData) : List PyData := ws.foldl (fun s w => s.set w.1.toNat w.2) s
def DM.flush (D : DM) : DM := { D with safe := putAll D.writes D.safe, writes := [], deeds := D.deeds ++ [none] }
/-- a right disk of n blocks, at most m events -/
structure DOk (n m : Nat) (D : DM) : Prop where
  n1 : 1 ≤ n
  n2 : n ≤ 128
  fl : D.first.length = n
  sl : D.safe.length = n
  fv : ∀ v ∈ D.first, blockB v = true
  sv : ∀ v ∈ D.safe, blockB v = true
  wv : ∀ w ∈ D.writes, 0 ≤ w.1 ∧ w.1 < n ∧ blockB w.2 = true
  dv : ∀ w, some w ∈ D.deeds → 0 ≤ w.1 ∧ w.1 < n ∧ blockB w.2 = true
  wl : D.writes.length ≤ D.deeds.length
  dl : D.deeds.length ≤ m
theorem putAll_length (ws : List (Int × PyData)) (s : List PyData) : (putAll ws s).length = s.length := by
  unfold putAll
  induction ws generalizing s with
  | nil => rfl
  | cons w ws ih => rw [List.foldl_cons, ih, List.length_set]
theorem putAll_mem {ws : List (Int × PyData)} {s : List PyData} {v : PyData} (h : v ∈ putAll ws s) : v ∈ s ∨ ∃ w ∈ ws, v = w.2 := by
  unfold putAll at h
  induction ws generalizing s with
  | nil => exact .inl h
  | cons w ws ih =>
    rw [List.foldl_cons] at h
    rcases ih h with h | ⟨u, hu, e⟩
    · rcases List.mem_or_eq_of_mem_set h with h | h
      · exact .inl h
      · exact .inr ⟨w, List.mem_cons_self, h⟩
    · exact .inr ⟨u, List.mem_cons_of_mem _ hu, e⟩
theorem DOk.new {n : Nat} (h1 : 1 ≤ n) (h2 : n ≤ 128) : DOk n 0 (DM.new n) :=
  ⟨h1, h2, List.length_replicate, List.length_replicate, fun v hv => by rw [List.eq_of_mem_replicate hv]; rfl, fun v hv => by rw [List.eq_of_mem_replicate hv]; rfl,
    fun w h => by simp [DM.new] at h, fun w h => by simp [DM.new] at h, Nat.le_refl _, Nat.le_refl _⟩
theorem DOk.write {n m : Nat} {D : DM} {b : Int} {v : PyData} (h : DOk n m D) (h0 : 0 ≤ b) (h1 : b < n) (hv : blockB v = true) : DOk n (m + 1) (D.write b v) := by
  refine ⟨h.n1, h.n2, h.fl, h.sl, h.fv, h.sv, fun w hw => ?_, fun w hw => ?_, ?_, ?_⟩
  · rcases List.mem_append.mp hw with hw | hw
    · exact h.wv w hw
    · rw [List.mem_singleton.mp hw]; exact ⟨h0, h1, hv⟩
  · rcases List.mem_append.mp hw with hw | hw
    · exact h.dv w hw
    · rw [Option.some.inj (List.mem_singleton.mp hw)]; exact ⟨h0, h1, hv⟩
  · have := h.wl
    simp only [DM.write, List.length_append, List.length_singleton]; omega
  · have := h.dl
    simp only [DM.write, List.length_append, List.length_singleton]; omega
theorem DOk.flush {n m : Nat} {D : DM} (h : DOk n m D) : DOk n (m + 1) D.flush := by
  refine ⟨h.n1, h.n2, h.fl, (putAll_length _ _).trans h.sl, h.fv, fun v hv => ?_, fun w hw => by simp [DM.flush] at hw, fun w hw => ?_, Nat.zero_le _, ?_⟩
  · rcases putAll_mem hv with hv | ⟨w, hw, rfl⟩
    · exact h.sv v hv
    · exact (h.wv w hw).2.2
  · rcases List.mem_append.mp hw with hw | hw
    · exact h.dv w hw
    · exact nomatch List.mem_singleton.mp hw
  · have := h.dl
    simp only [DM.flush, List.length_append, List.length_singleton]; omega
theorem DOk.mono {n m m' : Nat} {D : DM} (h : DOk n m D) (l : m ≤ m') : DOk n m' D := ⟨h.n1, h.n2, h.fl, h.sl, h.fv, h.sv, h.wv, h.dv, h.wl, Nat.le_trans h.dl l⟩
theorem lastW_cases {ws : List (Int × PyData)} {b : Int} {d : PyData} : lastW ws b d = d ∨ ∃ w ∈ ws, w.1 = b ∧ lastW ws b d = w.2 := by
  unfold lastW
  induction ws generalizing d with
  | nil => exact .inl rfl
  | cons w ws ih =>
    rw [List.foldl_cons]
    rcases ih (d := if w.1 = b then w.2 else d) with h | ⟨u, hu, e1, e2⟩
    · rw [h]
      by_cases hb : w.1 = b
      · rw [if_pos hb]; exact .inr ⟨w, List.mem_cons_self, hb, rfl⟩
      · rw [if_neg hb]; exact .inl rfl
    · exact .inr ⟨u, List.mem_cons_of_mem _ hu, e1, e2⟩
theorem DOk.read {n m : Nat} {D : DM} {b : Int} (h : DOk n m D) (h0 : 0 ≤ b) (h1 : b < n) : blockB (D.read b) = true := by
  unfold DM.read
  rcases lastW_cases (ws := D.writes) (b := b) (d := D.safe.getD b.toNat .none) with e | ⟨w, hw, _, e⟩
  · rw [e]
    have hl : b.toNat < D.safe.length := by rw [h.sl]; omega
    rw [List.getD_eq_getElem?_getD, List.getElem?_eq_getElem hl]
    exact h.sv _ (List.getElem_mem hl)
  · rw [e]; exact (h.wv w hw).2.2
/-! the disk on the heap -/
def diskF (l1 l2 l3 l4 : Addr) : List (Str × V) := [("first", .ref l1), ("safe", .ref l2), ("writes", .ref l3), ("deeds", .ref l4)]
structure DiskAt (K : PySem.W.Frag) (C : Addr) (H : Hp) (d : Addr) (fd : List Addr) (n m : Nat) (D : DM) : Prop where
  ok : DOk n m D
  ex : ∃ dx l1 l2 l3 l4 x1 x2 x3 x4, fd = [d, l1, l2, l3, l4] ∧ [d, l1, l2, l3, l4].Nodup ∧ H d = some (.ins C dx (diskF l1 l2 l3 l4)) ∧ H l1 = some (.lst x1) ∧ H l2 = some (.lst x2) ∧ H l3 = some (.lst x3) ∧ H l4 = some (.lst x4) ∧
    DnAll K [] H x1 D.first ∧ DnAll K [] H x2 D.safe ∧ DnAll K [] H x3 (D.writes.map dWr) ∧ DnAll K [] H x4 (D.deeds.map dEv)
section
variable {K : PySem.W.Frag} {C : Addr} {H H' : Hp} {d : Addr} {fd T : List Addr} {n m : Nat} {D : DM}
theorem DOk.nl1 (h : DOk n m D) : noLs D.first = true := noLs_all.mpr fun v hv => blockB_nol (h.fv v hv)
theorem DOk.nl2 (h : DOk n m D) : noLs D.safe = true := noLs_all.mpr fun v hv => blockB_nol (h.sv v hv)
theorem nol_dWr {w : Int × PyData} (h : noL w.2 = true) : noL (dWr w) = true := by
  show (true && (noL w.2 && true)) = true
  rw [h]; rfl
theorem nol_dEv {w : Option (Int × PyData)} (h : ∀ u, w = some u → noL u.2 = true) : noL (dEv w) = true := by
  cases w with
  | none => rfl
  | some u =>
    show (true && (true && (noL u.2 && true))) = true
    rw [h u rfl]; rfl
theorem DOk.nl3 (h : DOk n m D) : noLs (D.writes.map dWr) = true := noLs_map fun w hw => nol_dWr (blockB_nol (h.wv w hw).2.2)
theorem DOk.nl4 (h : DOk n m D) : noLs (D.deeds.map dEv) = true := noLs_map fun w hw => nol_dEv fun u e => blockB_nol (h.dv u (e ▸ hw)).2.2
theorem DiskAt.but (h : DiskAt K C H d fd n m D) (b : But T H H') (nd : Dj fd T) : DiskAt K C H' d fd n m D := by
  obtain ⟨ok, dx, l1, l2, l3, l4, x1, x2, x3, x4, rfl, hnd, h0, h1, h2, h3, h4, v1, v2, v3, v4⟩ := h
  refine ⟨ok, dx, l1, l2, l3, l4, x1, x2, x3, x4, rfl, hnd, b.at h0 (nd _ (by simp)), b.at h1 (nd _ (by simp)), b.at h2 (nd _ (by simp)), b.at h3 (nd _ (by simp)), b.at h4 (nd _ (by simp)),
    v1.nlb ok.nl1 b, v2.nlb ok.nl2 b, v3.nlb ok.nl3 b, v4.nlb ok.nl4 b⟩
theorem DiskAt.same (h : DiskAt K C H d fd n m D) (b : Same H H') : DiskAt K C H' d fd n m D := h.but (But.of_same (S := []) b) Dj.nil
theorem DiskAt.live (h : DiskAt K C H d fd n m D) : Live fd H := by
  obtain ⟨ok, dx, l1, l2, l3, l4, x1, x2, x3, x4, rfl, hnd, h0, h1, h2, h3, h4, v1, v2, v3, v4⟩ := h
  exact .cons h0 (.cons h1 (.cons h2 (.cons h3 (.cons h4 .nil))))
theorem DiskAt.mono {m' : Nat} (h : DiskAt K C H d fd n m D) (l : m ≤ m') : DiskAt K C H d fd n m' D := ⟨h.ok.mono l, h.ex⟩
end
end J

set_option Elab.async false
set_option linter.all false
set_option maxRecDepth 100000
set_option maxHeartbeats 4000000
namespace J
open PySem L2 PyProof.Rows
/-! ### records -/
inductive Rc where
  | commit
  | revoke (hs : List Int)
  | desc (hs : List Int)
  | copy (v : PyData)
def dHs (hs : List Int) : PyData := .tuple (hs.map .int)
def rcD (num : Int) : Rc → PyData
  | .commit => .tuple [.str "commit", .int num]
  | .revoke hs => .tuple [.str "revoke", .int num, dHs hs]
  | .desc hs => .tuple [.str "descriptor", .int num, dHs hs]
  | .copy v => .tuple [.str "copy", .int num, v]
def ascB : List Int → Bool
  | [] => true
  | [_] => true
  | a :: b :: r => decide (a < b) && ascB (b :: r)
/-- is_group -/
def groupB : PyData → Bool
  | .tuple ds => decide (1 ≤ ds.length) && decide (ds.length ≤ 8) && (ds.all (fun d => betB d 0 31) && ((ds.zip (ds.drop 1)).all fun q => match q with
      | (.int a, .int b) => decide (a < b)
      | _ => false))
  | _ => false
def intsOf : List PyData → List Int
  | [] => []
  | .int i :: r => i :: intsOf r
  | _ :: r => intsOf r
theorem intsOf_map : ∀ {ds : List PyData}, (ds.all fun d => betB d 0 31) = true → ds = (intsOf ds).map .int
  | [], _ => rfl
  | .int i :: r, h => by
    rw [List.all_cons, Bool.and_eq_true] at h
    show PyData.int i :: r = .int i :: (intsOf r).map .int
    rw [← intsOf_map h.2]
  | .none :: _, h => by simp [betB] at h
  | .bool _ :: _, h => by simp [betB] at h
  | .str _ :: _, h => by simp [betB] at h
  | .list _ :: _, h => by simp [betB] at h
  | .tuple _ :: _, h => by simp [betB] at h
  | .dict _ :: _, h => by simp [betB] at h
/-- what stands in a slot, read as a record of the number -/
def parse (num : Int) (d : PyData) : Option Rc :=
  match d with
  | .tuple [k, n] => if PyData.eqv n (.int num) && intB n && PyData.eqv k (.str "commit") then some .commit else none
  | .tuple [k, n, x] =>
    if PyData.eqv n (.int num) && intB n then
      if PyData.eqv k (.str "copy") then some (.copy x)
      else if PyData.eqv k (.str "revoke") && groupB x then (match x with | .tuple ds => some (.revoke (intsOf ds)) | _ => none)
      else if PyData.eqv k (.str "descriptor") && groupB x then (match x with | .tuple ds => some (.desc (intsOf ds)) | _ => none)
      else none
    else none
  | _ => none
theorem eqv_int {n : PyData} {num : Int} (h : (PyData.eqv n (.int num) && intB n) = true) : n = .int num := by
  rw [Bool.and_eq_true] at h
  cases n <;> simp_all [intB, PyData.eqv]
theorem eqv_str {k : PyData} {s : Str} : PyData.eqv k (.str s) = true ↔ k = .str s := by
  cases k <;> simp [PyData.eqv]
theorem parse_some {num : Int} {d : PyData} {r : Rc} (h : parse num d = some r) : d = rcD num r := by
  unfold parse at h
  split at h
  · split at h
    · rename_i hc
      rw [Bool.and_eq_true] at hc
      cases h
      rw [eqv_int hc.1, eqv_str.mp hc.2]; rfl
    · cases h
  · split at h
    · rename_i hc
      rw [eqv_int hc]
      split at h
      · rename_i h1
        cases h
        rw [eqv_str.mp h1]; rfl
      · split at h
        · rename_i h1
          rw [Bool.and_eq_true] at h1
          split at h
          · rename_i ds
            cases h
            have hg := h1.2
            unfold groupB at hg
            simp only [Bool.and_eq_true] at hg
            rw [eqv_str.mp h1.1]
            show _ = PyData.tuple [.str "revoke", .int num, .tuple ((intsOf ds).map .int)]
            rw [← intsOf_map hg.2.1]
          · cases h
        · split at h
          · rename_i h1
            rw [Bool.and_eq_true] at h1
            split at h
            · rename_i ds hn
              cases h
              have hg := h1.2
              unfold groupB at hg
              simp only [Bool.and_eq_true] at hg
              rw [eqv_str.mp h1.1]
              show _ = PyData.tuple [.str "descriptor", .int num, .tuple ((intsOf ds).map .int)]
              rw [← intsOf_map hg.2.1]
            · cases h
          · cases h
    · cases h
  · cases h
/-! ### transactions in the ring: rec tells what stands in a slot, of s slots -/
section
variable (s : Nat) (rec : Nat → Option Rc)
def takeC : List Int → Nat → Nat → List (Int × PyData) → Option (Nat × Nat × List (Int × PyData))
  | [], p, l, cs => some (p, l, cs)
  | h :: hs, p, l, cs => if l = 0 then none else match rec p with
    | some (.copy v) => takeC hs ((p + 1) % s) (l - 1) (cs ++ [(h, v)])
    | _ => none
def complete : Nat → Nat → Nat → List (Int × PyData) → List Int → Option (List (Int × PyData) × List Int × Nat)
  | 0, _, _, _, _ => none
  | fuel + 1, p, l, cs, rs => if l = 0 then none else match rec p with
    | some .commit => some (cs, rs, (p + 1) % s)
    | some (.revoke hs) => complete fuel ((p + 1) % s) (l - 1) cs (rs ++ hs)
    | some (.desc hs) => (match takeC s rec hs ((p + 1) % s) (l - 1) cs with
      | some (p', l', cs') => complete fuel p' l' cs' rs
      | none => none)
    | _ => none
end
def DM.rc (D : DM) (num : Int) (slot : Nat) : Option Rc := parse num (D.read (1 + (slot : Int)))
def txAt (s : Nat) (D : DM) (num : Int) (slot : Nat) : Option (List (Int × PyData) × List Int × Nat) := complete s (D.rc num) (s + 1) slot s [] []
/-- scan: the transactions, the next number, the next slot -/
def scanGo (s : Nat) (D : DM) : Nat → Int → Nat → Nat → List (Int × List (Int × PyData) × List Int) → List (Int × List (Int × PyData) × List Int) × Int × Nat
  | 0, num, slot, _, found => (found, num, slot)
  | fuel + 1, num, slot, left, found => match txAt s D num slot with
    | none => (found, num, slot)
    | some (cs, rs, next) =>
      let taken := ((next : Int) - slot - 1) % s + 1
      if taken > left then (found, num, slot) else scanGo s D fuel (num + 1) next (left - taken.toNat) (found ++ [(num, cs, rs)])
end J

set_option Elab.async false
set_option linter.all false
set_option maxRecDepth 100000
set_option maxHeartbeats 4000000
namespace J
open PySem PySem.Spec L2 PyProof.Rows
/-! ### list += tuple -/
section
variable {M : Model} {A : Around} {E : Value → Shared → Prop} {s : Shared} {x y : Value}
theorem bin1_neither {T U nm : String} {Q : Option Value → Shared → Prop} (tx : s.TypeIs x T) (ty : s.TypeIs y U) (ne : (Value.type T == Value.type U) = false)
    (nT : fillsNumberSlot (.type T) nm = pure false) (nU : fillsNumberSlot (.type U) nm = pure false) (q : Q none s) : wpAny M A (binaryOp1 nm x y) Q E s := by
  simp only [binaryOp1]
  refine wpAny_bind (wpAny_typeOf tx ?_)
  refine wpAny_bind (wpAny_typeOf ty ?_)
  refine wpAny_bind (wpAny_of_eq nT ?_)
  rw [ne]
  simp only [Bool.false_eq_true, if_false]
  refine wpAny_bind (wpAny_of_eq nU ?_)
  simp only [Bool.false_and, Bool.false_eq_true, if_false, pure_bind, beq_self_eq_true, if_true]
  exact wpAny_pure q
theorem iadd_listTup {Q : Value → Shared → Prop} (tx : s.TypeIs x "list") (ty : s.TypeIs y "tuple") (q : wpAny M A (call (.builtin "list.__iadd__") [x, y]) Q E s) : wpAny M A (inplaceOp .Add x y) Q E s := by
  have lk : typeLookup (.type "list") (dunderI "add") = pure (some (.builtin "list.__iadd__")) := F.slot_list_iadd.lookup
  have sq : isSeqSlot (some (.builtin "list.__iadd__")) = true := by decide +kernel
  have f0 : fillsInplaceSlot (.type "list") "add" (Operator.Add == .Add) = pure false := by
    unfold fillsInplaceSlot
    simp only [lk, pure_bind, sq]
    rfl
  unfold inplaceOp
  refine wpAny_holding (wpAny_bind (wpAny_typeOf tx (wpAny_bind ?_)))
  refine wpAny_of_eq f0 ?_
  simp only [Bool.false_eq_true, if_false]
  refine wpAny_bind (bin1_neither tx ty (by decide +kernel) noFill_list_add noFill_tuple_add ?_)
  refine wpAny_bind (wpAny_of_eq (PySem.seqSlot_of lk sq) ?_)
  exact wpAny_bind (wpAny_rule q)
end
def rExtT (K : PySem.W.Frag) : R2 := fun x y H Q => ∃ l b xs ys, x = .ref l ∧ y = .ref b ∧ H l = some (.lst xs) ∧ SqT K H b ys ∧ xs.length + ys.length ≤ sizeLine ∧ Q (.ref l) (upd H l (.lst (xs ++ ys)))
section
variable {X : Cx} {K : PySem.W.Frag}
theorem iop_extT (e : X.K = K := by rfl) : OpR X (inplaceOp .Add) (rExtT K) := by
  subst e
  rintro pins s σ H x y v u Q I rx ry ⟨l, b, xs, ys, rfl, rfl, hl, hb, hz, q⟩
  cases rx
  cases ry
  obtain ⟨z1, its, n, r1, e1, g1⟩ := I.lstM hl
  obtain ⟨jts, r2, ⟨o, g2, c2, m, d2⟩, z2⟩ := I.tuple hb
  have k1 := r1.length
  have k2 := r2.length
  have ty : s.TypeIs (.ref b) "tuple" := ⟨o, g2, c2⟩
  refine iadd_listTup ⟨_, g1, rfl⟩ ty ?_
  refine wpAny_call_entry F.slot_list_iadd ⟨_, g1, rfl⟩ F.entry_list_iadd ?_ (F.args_list_iadd_2 _ _)
  have nl : Builtin.List.listTooLong (its.toArray.size + jts.toArray.size) = false := notLongL (by rw [List.size_toArray, List.size_toArray]; omega)
  show wpAny _ _ (Builtin.List.listExtendWith (.ref l) (.ref b) (.ref l)) _ _ _
  unfold Builtin.List.listExtendWith
  refine wpAny_bind (wpAny_typeOf ty ?_)
  have cnd : (Builtin.List.listSameRef (.ref l) (.ref b) || Value.type "tuple" == Value.type "list" || Value.type "tuple" == Value.type "tuple") = true := by simp
  rw [if_pos cnd]
  refine wpAny_bind (listItems_at g2 d2 ?_)
  refine wpAny_bind (listItems_at g1 rfl ?_)
  rw [nl, Bool.and_false]
  simp only [Bool.false_eq_true, if_false]
  refine wpAny_bind (listUpdate_at g1 rfl ?_ (by rw [List.size_toArray]; omega) (by rw [Array.size_append, List.size_toArray, List.size_toArray]; omega))
  refine wpAny_pure ⟨.ref l, rfl, .ref l, _, I.lset (its' := its ++ jts) (t' := s.toks) hl g1 (by simp) (r1.append r2) ?_, rfl, q⟩
  rw [List.length_append]; exact hz
theorem ip_addT (e : X.K = K := by rfl) : PIp X .Add (fun x y H Q => rIadd x y H Q ∨ rExtT K x y H Q) := by
  subst e
  exact OpR.or (f := inplaceOp .Add) ip_addA iop_extT
end
def rIaddT (K : PySem.W.Frag) : R2 := fun x y H Q => rIadd x y H Q ∨ rExtT K x y H Q
theorem ip_addTA {X : Cx} {K : PySem.W.Frag} (e : X.K = K := by rfl) : PIp X .Add (rIaddT K) := ip_addT e
section
variable {K : PySem.W.Frag} {H : Hp} {Q : VK} {l p : Addr} {xs ys : List V}
theorem r_extT (h : H l = some (.lst xs)) (h' : SqT K H p ys) (c : xs.length + ys.length ≤ sizeLine) (k : ∀ H', But [l] H H' → H' l = some (.lst (xs ++ ys)) → Q (.ref l) H') : rIaddT K (.ref l) (.ref p) H Q :=
  .inr ⟨l, p, xs, ys, rfl, rfl, h, h', c, k _ (But.write h (fun z => z) (by simp)) upd_same⟩
theorem r_extLT (h : H l = some (.lst xs)) (h' : H p = some (.lst ys)) (c : xs.length + ys.length ≤ sizeLine) (k : ∀ H', But [l] H H' → H' l = some (.lst (xs ++ ys)) → Q (.ref l) H') : rIaddT K (.ref l) (.ref p) H Q :=
  .inl (r_ext h h' c k)
end
/-! ### while True -/
theorem whileT {K : PySem.W.Frag} {tb : TS} {D : Ends} {σ : L2.St} {H : Hp} {m0 : Nat} (Pv : Nat → L2.St → Hp → Prop) (h0 : Pv m0 σ H)
    (hs : ∀ m σ H, Pv m σ H → tb { D with nx := fun σ' H' => ∃ m', m' < m ∧ Pv m' σ' H', ct := fun σ' H' => ∃ m', m' < m ∧ Pv m' σ' H', bk := D.nx } σ H) : tWhile (tTruA K (tC (.bl true))) tb D σ H := by
  refine ⟨Pv, ⟨m0, h0⟩, fun m σ H p => ?_⟩
  refine ⟨true, rfl, ?_⟩
  dsimp only
  rw [if_pos rfl]
  exact ⟨fun σ' H' => ∃ m', m' < m ∧ Pv m' σ' H', fun _ _ h => h, hs m σ H p⟩
theorem ascInts_len {x : PyData} {ds : List PyData} (h : groupB x = true) (e : x = .tuple ds) : (intsOf ds).length ≤ 8 := by
  subst e
  unfold groupB at h
  simp only [Bool.and_eq_true, decide_eq_true_iff] at h
  have := intsOf_map h.2.1
  have e2 : ds.length = (intsOf ds).length := by
    conv => lhs; rw [this]
    rw [List.length_map]
  omega
theorem parse_len {num : Int} {d : PyData} {hs : List Int} (h : parse num d = some (.revoke hs) ∨ parse num d = some (.desc hs)) : hs.length ≤ 8 := by
  have hd : d = rcD num (.revoke hs) ∨ d = rcD num (.desc hs) := h.imp parse_some parse_some
  rcases h with h | h
  · have e := parse_some h
    subst e
    have e2 : parse num (rcD num (.revoke hs)) = if (PyData.eqv (.int num) (.int num) && intB (.int num)) = true then (if groupB (dHs hs) = true then some (.revoke (intsOf (hs.map .int))) else none) else none := by
      unfold parse rcD dHs
      rfl
    rw [e2] at h
    split at h
    · split at h
      · rename_i h1 h2
        have e3 := Option.some.inj h
        have e4 : intsOf (hs.map .int) = hs := by injection e3
        rw [← e4]
        exact ascInts_len h2 rfl
      · cases h
    · cases h
  · have e := parse_some h
    subst e
    have e2 : parse num (rcD num (.desc hs)) = if (PyData.eqv (.int num) (.int num) && intB (.int num)) = true then (if groupB (dHs hs) = true then some (.desc (intsOf (hs.map .int))) else none) else none := by
      unfold parse rcD dHs
      rfl
    rw [e2] at h
    split at h
    · split at h
      · rename_i h1 h2
        have e3 := Option.some.inj h
        have e4 : intsOf (hs.map .int) = hs := by injection e3
        rw [← e4]
        exact ascInts_len h2 rfl
      · cases h
    · cases h
end J

set_option Elab.async false
set_option linter.all false
set_option maxRecDepth 100000
set_option maxHeartbeats 4000000
namespace J
open PySem L2 PyProof.Rows
/-! ### range(0, n, 8) -/
section
variable {σ : L2.St} {H : Hp} {g : TG} {ts : TS} {D : Ends}
def ForR3 (g : TG) (ts : TS) (D : Ends) (σ : L2.St) (vs : List V) (H : Hp) : Prop :=
  ∃ (i j c : Int) (n : Nat), vs = [.int i, .int j, .int c] ∧ RgC i j c n ∧ ∃ W : Nat → Nat → L2.St → Hp → Prop, (∃ m, W 0 m σ H) ∧ ∀ k m σ H, W k m σ H →
    ((Itc i c n).stop k H ∧ D.nx σ H) ∨ ((Itc i c n).go k H ∧ ∃ N : L2.St → Hp → Prop, (∀ σ' H', N σ' H' → ∃ m', m' < m ∧ W (k + 1) m' σ' H') ∧
      ∀ x H', (Itc i c n).yld k H x H' → Turn g ts D N x σ H')
theorem r_forR3 {ta : TA} (k : ta σ H fun vs H1 => ForR3 g ts D σ vs H1) : tFor (iRng3 ta) g ts D σ H := k
theorem fitsL {x : Int} (h0 : 0 ≤ x) (h1 : x < 1000000) : Builtin.Range.rangeFitsLong x = true := by
  unfold Builtin.Range.rangeFitsLong
  simp only [Bool.and_eq_true, decide_eq_true_iff]
  constructor <;> omega
theorem rg8 {n : Nat} (h : n ≤ 100000) : RgC 0 n 8 ((n + 7) / 8) := by
  have e : Builtin.Range.rangeSize 0 (n : Int) 8 = (((n + 7) / 8 : Nat) : Int) := by
    unfold Builtin.Range.rangeSize
    rw [if_pos (by decide)]
    split
    · omega
    · omega
  refine ⟨by decide, by decide, ?_, e⟩
  unfold Builtin.Range.small
  rw [e, fitsL (x := 0) (by omega) (by omega), fitsL (x := (n : Int)) (by omega) (by omega), fitsL (x := 8) (by omega) (by omega), fitsL (x := (((n + 7) / 8 : Nat) : Int)) (by omega) (by omega), if_pos (by decide), fitsL (by omega) (by omega), Bool.or_true]
  rfl
theorem forR8 {n : Nat} (h : n ≤ 100000) (Pv : Nat → L2.St → Hp → Prop) (h0 : Pv 0 σ H)
    (hs : ∀ (i : Nat) σ H, 8 * i < n → Pv i σ H → Turn g ts D (Pv (i + 1)) (.int ((8 * i : Nat) : Int)) σ H) (hd : ∀ σ H, Pv ((n + 7) / 8) σ H → D.nx σ H) : ForR3 g ts D σ [.int 0, .int n, .int 8] H := by
  refine ⟨0, n, 8, (n + 7) / 8, rfl, rg8 h, fun i m σ H => m = (n + 7) / 8 - i ∧ i ≤ (n + 7) / 8 ∧ Pv i σ H, ⟨_, rfl, Nat.zero_le _, h0⟩, ?_⟩
  rintro i m σ H ⟨rfl, hi, p⟩
  by_cases hlt : i < (n + 7) / 8
  · refine .inr ⟨hlt, Pv (i + 1), fun σ' H' p' => ⟨_, by omega, rfl, hlt, p'⟩, fun x H' y => ?_⟩
    obtain ⟨rfl, rfl⟩ := y
    have e : (0 : Int) + (i : Nat) * 8 = ((8 * i : Nat) : Int) := by omega
    rw [e]
    exact hs i σ _ (by omega) p
  · have e : i = (n + 7) / 8 := by omega
    subst e
    exact .inl ⟨Nat.le_refl _, hd σ H p⟩
end
/-! ### values deeper down -/
mutual
theorem valB_up : ∀ (d : PyData) (k j : Nat), valB d k = true → d.depth + j ≤ 8 → valB d j = true
  | .tuple xs, k, j, h, hd => by
    have h2 : (decide (k < 8) && valsB xs (k + 1)) = true := h
    rw [Bool.and_eq_true, decide_eq_true_iff] at h2
    have e : (PyData.tuple xs).depth = PyData.depthAll xs + 1 := rfl
    rw [e] at hd
    show (decide (j < 8) && valsB xs (j + 1)) = true
    rw [decide_eq_true (by omega), Bool.true_and]
    exact valsB_up xs (k + 1) (j + 1) h2.2 (by omega)
  | .int _, _, _, _, _ => rfl
  | .str _, _, _, _, _ => rfl
  | .none, _, _, h, _ => by simp [valB] at h
  | .bool _, _, _, h, _ => by simp [valB] at h
  | .list _, _, _, h, _ => by simp [valB] at h
  | .dict _, _, _, h, _ => by simp [valB] at h
theorem valsB_up : ∀ (ds : List PyData) (k j : Nat), valsB ds k = true → PyData.depthAll ds + j ≤ 8 + 0 → valsB ds j = true
  | [], _, _, _, _ => rfl
  | x :: xs, k, j, h, hd => by
    have h2 : (valB x k && valsB xs k) = true := h
    rw [Bool.and_eq_true] at h2
    have e : PyData.depthAll (x :: xs) = max x.depth (PyData.depthAll xs) := rfl
    rw [e] at hd
    show (valB x j && valsB xs j) = true
    rw [valB_up x k j h2.1 (by omega), valsB_up xs k j h2.2 (by omega)]; rfl
end
/-- a record of a right value is a right block -/
theorem block_rcD {num : Int} {rc : Rc} (hh : ∀ hs, rc = .revoke hs ∨ rc = .desc hs → hs.length ≤ 1000000) (hv : ∀ v, rc = .copy v → blockB v = true ∧ v.depth ≤ 7) : blockB (rcD num rc) = true := by
  have hiv : ∀ (hs : List Int) (k : Nat), valsB (hs.map .int) k = true := fun hs k => by
    rw [valsB_all, List.all_map]; simp [valB]
  have slm : ∀ hs : List Int, slims (hs.map .int) = true := by
    intro hs
    induction hs with
    | nil => rfl
    | cons a b ih =>
      show (slim (.int a) && slims (b.map .int)) = true
      rw [ih]; rfl
  have grp : ∀ (x : Str) (hs : List Int), PyData.strOk x = true → hs.length ≤ 1000000 → blockB (.tuple [.str x, .int num, dHs hs]) = true := by
    intro x hs hx hl
    unfold blockB
    have e1 : valB (.tuple [.str x, .int num, dHs hs]) 0 = valsB (hs.map .int) 2 := by
      show (decide (0 < 8) && (true && (true && ((decide (1 < 8) && valsB (hs.map .int) 2) && true)))) = _
      simp
    have e2 : slim (.tuple [.str x, .int num, dHs hs]) = (decide ((hs.map PyData.int).length ≤ 1000000) && slims (hs.map .int)) := by
      show (decide (3 ≤ 1000000) && (true && (true && ((decide ((hs.map PyData.int).length ≤ 1000000) && slims (hs.map .int)) && true)))) = _
      simp
    have e3 : (PyData.tuple [.str x, .int num, dHs hs]).canLay0 = (PyData.strOk x && PyData.canLayAll0 (hs.map .int)) := by
      show (PyData.strOk x && (true && (PyData.canLayAll0 (hs.map .int) && true))) = _
      simp
    rw [e1, e2, e3, hiv, slm, layInts, hx, List.length_map, decide_eq_true hl]; rfl
  cases rc with
  | commit =>
    show blockB (.tuple [.str "commit", .int num]) = true
    unfold blockB
    have e3 : (PyData.tuple [.str "commit", .int num]).canLay0 = (PyData.strOk "commit" && true) := rfl
    rw [e3, show PyData.strOk "commit" = true by decide +kernel]; rfl
  | revoke hs => exact grp "revoke" hs (by decide +kernel) (hh hs (.inl rfl))
  | desc hs => exact grp "descriptor" hs (by decide +kernel) (hh hs (.inr rfl))
  | copy v =>
    obtain ⟨h1, h2⟩ := hv v rfl
    show blockB (.tuple [.str "copy", .int num, v]) = true
    unfold blockB
    have e1 : valB (.tuple [.str "copy", .int num, v]) 0 = valB v 1 := by
      show (decide (0 < 8) && (true && (true && (valB v 1 && true)))) = _
      simp
    have e2 : slim (.tuple [.str "copy", .int num, v]) = slim v := by
      show (decide (3 ≤ 1000000) && (true && (true && (slim v && true)))) = _
      simp
    have e3 : (PyData.tuple [.str "copy", .int num, v]).canLay0 = (PyData.strOk "copy" && v.canLay0) := by
      show (PyData.strOk "copy" && (true && (v.canLay0 && true))) = _
      simp
    rw [e1, e2, e3, valB_up v 0 1 (blockB_val h1) (by omega), blockB_slim h1, blockB_lay h1, show PyData.strOk "copy" = true by decide +kernel]; rfl
end J

set_option Elab.async false
set_option linter.all false
set_option maxRecDepth 100000
set_option maxHeartbeats 4000000
namespace J
open PySem L2 PyProof.Rows
/-! ### further rules -/
section
variable {σ : L2.St} {H : Hp} {K : PySem.W.Frag} {Q : VK} {p q : Addr} {xs ys : List V}
/-- what follows a statement is shown once, for all ways out of it -/
theorem r_seqCut {t u : TS} {D : Ends} (W : L2.St → Hp → Prop) (h1 : ∀ σ' H', W σ' H' → u D σ' H') (h2 : (∀ σ' H', W σ' H' → u D σ' H') → t { D with nx := u D } σ H) : tSeq t u D σ H := h2 h1
/-- tuple + tuple -/
theorem r_addT (h1 : SqT K H p xs) (h2 : SqT K H q ys) (c : xs.length + ys.length ≤ sizeLine) (k : ∀ l H', Same H H' → SqT K H' l (xs ++ ys) → Q (.ref l) H') : rAddA K (.ref p) (.ref q) H Q := by
  refine .inr (.inr (.inr ⟨p, q, xs, ys, rfl, rfl, h1, h2, c, fun e => ?_, fun _ e => ?_, fun _ _ l hl => ?_⟩))
  · subst e
    exact k q H (fun _ _ e => e) h2
  · subst e
    exact k p H (fun _ _ e => e) (by rw [List.append_nil]; exact h1)
  · exact k l _ (But.new (S := []) hl).same (SqT.of upd_same)
/-- xs[:-1] -/
theorem cut_last {xs : List V} : cutV xs none (some (-1)) = xs.take (xs.length - 1) := by
  unfold cutV
  rw [HT.sIx_none, List.drop_zero, Nat.sub_zero]
  have e : HT.sIx xs.length xs.length (some (-1)) = xs.length - 1 := by
    show (if (-1 : Int) < 0 then ((-1 : Int) + (xs.length : Int)).toNat else min (-1 : Int).toNat xs.length) = _
    rw [if_pos (by decide)]; omega
  rw [e]
end
/-! ### what data rests on -/
theorem Dn.support {K : PySem.W.Frag} {S : List Addr} {H : Hp} {v : V} {d : PyData} (h : Dn K S H v d) : ∃ SL : List Addr, Live SL H ∧ ∀ (T : List Addr) (H' : Hp), But T H H' → Dj SL T → Dn K [] H' v d := by
  refine Dn.rec (motive_1 := fun v d _ => ∃ SL : List Addr, Live SL H ∧ ∀ (T : List Addr) (H' : Hp), But T H H' → Dj SL T → Dn K [] H' v d)
    (motive_2 := fun vs ds _ => ∃ SL : List Addr, Live SL H ∧ ∀ (T : List Addr) (H' : Hp), But T H H' → Dj SL T → DnAll K [] H' vs ds) ?_ ?_ ?_ ?_ ?_ ?_ ?_ ?_ h
  · exact ⟨[], .nil, fun _ _ _ _ => .non⟩
  · exact fun b => ⟨[], .nil, fun _ _ _ _ => .bl b⟩
  · exact fun i => ⟨[], .nil, fun _ _ _ _ => .int i⟩
  · exact fun x => ⟨[], .nil, fun _ _ _ _ => .str x⟩
  · rintro a xs ds h1 h2 _ ⟨SL, l, k⟩
    exact ⟨a :: SL, .cons h1 l, fun T H' b dj => .lst (b.at h1 (dj a List.mem_cons_self)) List.not_mem_nil (k T H' b fun s hs => dj s (List.mem_cons_of_mem _ hs))⟩
  · rintro a xs ds h1 _ ⟨SL, l, k⟩
    exact ⟨SL, l, fun T H' b dj => .tup (b.sqT h1) (k T H' b dj)⟩
  · exact ⟨[], .nil, fun _ _ _ _ => .nil⟩
  · rintro v vs d ds _ _ ⟨S1, l1, k1⟩ ⟨S2, l2, k2⟩
    refine ⟨S1 ++ S2, fun s hs => (List.mem_append.mp hs).elim (l1 s) (l2 s), fun T H' b dj => .cons (k1 T H' b fun s hs => dj s (List.mem_append_left _ hs)) (k2 T H' b fun s hs => dj s (List.mem_append_right _ hs))⟩
theorem DnAll.support {K : PySem.W.Frag} {S : List Addr} {H : Hp} : ∀ {vs : List V} {ds : List PyData}, DnAll K S H vs ds → ∃ SL : List Addr, Live SL H ∧ ∀ (T : List Addr) (H' : Hp), But T H H' → Dj SL T → DnAll K [] H' vs ds
  | _, _, .nil => ⟨[], .nil, fun _ _ _ _ => .nil⟩
  | _, _, .cons h t => by
    obtain ⟨S1, l1, k1⟩ := h.support
    obtain ⟨S2, l2, k2⟩ := DnAll.support t
    refine ⟨S1 ++ S2, fun s hs => (List.mem_append.mp hs).elim (l1 s) (l2 s), fun T H' b dj => .cons (k1 T H' b fun s hs => dj s (List.mem_append_left _ hs)) (k2 T H' b fun s hs => dj s (List.mem_append_right _ hs))⟩
theorem r_reprOk {K : PySem.W.Frag} {S : List Addr} {H : Hp} {Q : VK} {x : V} {d : PyData} {n k : Nat} (h : Dn K S H x d) (o : Ok n k d) (hk : k ≤ 60) (hn : n ≤ 16777216) (q : Q (.str d.shown) H) : rRepr K [x] H Q :=
  r_repr h.dp o.show_ (Nat.le_trans o.dep hk) (sz (Nat.le_trans o.len hn)) q
end J

set_option Elab.async false
set_option linter.all false
set_option maxRecDepth 100000
set_option maxHeartbeats 4000000
namespace J
open PySem PySem.Spec L2 PyProof.Rows
/-! ### sorted(d), d with int keys -/
def rSortedDI : List V → Hp → VK → Prop := fun xs H Q => ∃ (a : Addr) (kvs : List (L2.Key × V)) (ks : List Int), xs = [.ref a] ∧ H a = some (.dK kvs) ∧ kvs.map (·.1) = ks.map Sum.inl ∧ ks.length < 1000 ∧
    ∀ (ys : List Int) (p : Addr), ys.Perm ks → ys.Pairwise (· ≤ ·) → H p = none → Q (.ref p) (upd H p (.lst (ys.map V.int)))
theorem cr_sortedDI {X : Cx} (hcalm : X.calm = true) : CallR X (.builtin "sorted") rSortedDI := by
  intro pins s σ H xs us Q I r q
  obtain ⟨a, kvs, ks, ex, hd, hks, h64, q⟩ := q
  subst ex
  obtain ⟨u, eu, rx⟩ := vals1 r
  subst eu
  cases rx
  obtain ⟨z, lo, vs, rel, dd⟩ := dk_rd I.hok (.inl hd)
  obtain ⟨ep, hat⟩ := dd.dictAt
  have hkeys : vs.map (·.1) = ks.map Sum.inl := rel.keys.symm.trans hks
  have hl : vs.length = ks.length := by
    have e := congrArg List.length hkeys
    rw [List.length_map, List.length_map] at e
    exact e
  have h16 : vs.length ≤ sizeLine := by rw [hl, sizeLine_eq]; omega
  refine Calls.call_function_entry PyProof.Rows.kind_sorted PyProof.Rows.plain_sorted PyProof.Rows.entry_sorted (PyProof.Rows.args_sorted1 _) ?_
  unfold Builtin.«sorted»
  refine wpAny_bind (m := checkCount "sorted" 1 1 _) (wpAny_pure ?_)
  refine wpAny_bind (PySem.W.kdu_collect (A := X.A.in1) (PySem.W.kdl_dict (knd := mixKind X.prog X.w) (kvs := vs) (ep := ep) lo) (I.ok.hd hcalm) hat h16 fun h' tk acc hk hacc => ?_)
  have hal : acc.toList.length = vs.length := by rw [Array.length_toList, hacc.1]
  have rv0 := keys_at (us := acc.toList) (vs := vs) hal fun j v e => by
    obtain ⟨k, x, e1, e2⟩ := hacc.2 j v (by rw [← Array.getElem?_toList]; exact e)
    exact ⟨k, x, e1, e2⟩
  have ek : (vs.map fun p => kV p.1) = ks.map V.int := by
    have e1 : (vs.map fun p => kV p.1) = (vs.map (·.1)).map kV := by rw [List.map_map]; rfl
    rw [e1, hkeys, List.map_map]; rfl
  rw [ek] at rv0
  have hi := rv0.ints
  have I1 : Inv X pins σ H { s with heap := h', toks := tk } := I.kept hk
  refine wpAny_bind (wpAny_newList ?_ (by rw [hal, hl, sizeLine_eq]; omega))
  have hoL : (h'.push (seqObj "list" acc.toList.toArray 0)).get? h'.objs.size = some (seqObj "list" acc.toList.toArray 0) := Heap.get?_push_size _ rfl
  show wpAny _ _ _ _ _ { s with heap := h'.push (seqObj "list" acc.toList.toArray 0), toks := tk }
  refine wpAny_bind (wpAny_holding (wpAny_call_entry PyProof.Rows.slot_list_sort ⟨_, hoL, rfl⟩ PyProof.Rows.entry_list_sort
    (SrtO.list_sort_ord (s := { s with heap := h'.push (seqObj "list" acc.toList.toArray 0), toks := tk }) SrtO.swo_int hoL (by rw [hal, hl, sizeLine_eq]; omega) (fun h2 => SrtO.ints_sortable hi h2) fun out h1 h2 => ⟨_, rfl, ?_⟩)
    (PyProof.Rows.args_list_sort _)))
  obtain ⟨k1, k2, k3⟩ := SrtO.ints_out hi h1 h2
  obtain ⟨e', he'⟩ := PyProof.Rows.sortedHeap_at (vs := acc.toList) (out := out.toArray) hoL
  have hlen : ((out.map SrtO.iv).map V.int).length ≤ sizeLine := by
    rw [List.length_map, k2.length_eq]
    exact Nat.le_trans (Nat.le_of_lt h64) (by decide)
  refine wpAny_pure ⟨_, rfl, .ref h'.objs.size, upd H h'.objs.size (.lst ((out.map SrtO.iv).map V.int)), I1.laid (t' := tk) (fun b u e => ?_) (Nat.le_refl _)
    (show ObjOk X.prog X.w _ _ h'.objs.size (.lst ((out.map SrtO.iv).map V.int)) from ⟨hlen, out, e', vals_of_ints k1, he'⟩), rfl, q _ _ k2 k3 (I1.hok.fresh (Nat.le_refl _))⟩
  have hb : b < h'.objs.size := Heap.lt_size e
  rw [PyProof.Rows.sortedHeap_old (Nat.ne_of_lt hb) (by rw [size_push']; exact Nat.lt_succ_of_lt hb)]
  exact Heap.get?_push_of_some _ e
theorem pt_dead {X : Cx} {e : Expr} : PT X e (fun _ _ _ => False) := ⟨fun _ _ _ _ _ _ h => h.elim⟩
/-- the kept pending writes -/
def DM.keepW (D : DM) (ns : List Nat) : List (Int × PyData) := ns.map fun i => D.writes.getD i (0, .none)
def DM.crash (D : DM) (ns : List Nat) : DM := ⟨putAll (D.keepW ns) D.safe, putAll (D.keepW ns) D.safe, [], []⟩
end J

set_option Elab.async false
set_option linter.all false
set_option maxRecDepth 100000
set_option maxHeartbeats 4000000
namespace J
open PySem L2 PyProof.Rows
/-! ### comprehensions over range(n), list(range(n)) -/
section
variable {σ : L2.St} {H : Hp} {Q : VK} {g : TG} {tt : TT} {te : TE} {vs : List Nat} {j : Int}
def LcR (g : TG) (tt : TT) (te : TE) (vs : List Nat) (σ : L2.St) (Q : VK) (ws : List V) (H : Hp) : Prop :=
  ∃ j : Int, ws = [.int j] ∧ -(2 ^ 62) ≤ j ∧ j < 2 ^ 62 ∧ LcG (Itr 0 j.toNat) g tt te vs σ Q H
theorem r_lcR {ta : TA} (k : ta σ H fun ws H1 => LcR g tt te vs σ Q ws H1) : tLc (iRng1 ta) g tt te vs σ H Q := k
theorem lcR (b : -(2 ^ 62) ≤ j ∧ j < 2 ^ 62) (mk : ∀ l H0, H l = none → Same H H0 → H0 l = some (.lst []) → ∃ Pv : Nat → Hp → Prop, Pv 0 H0 ∧
      (∀ (i : Nat) H, (i : Int) < j → Pv i H → LTurn g tt te vs l (Pv (i + 1)) (.int i) σ H) ∧ ∀ H, Pv j.toNat H → Q (.ref l) H) : LcR g tt te vs σ Q [.int j] H := by
  refine ⟨j, rfl, b.1, b.2, fun l hl => ?_⟩
  obtain ⟨Pv, h0, h2, h3⟩ := mk l _ hl (But.new (S := []) hl).same upd_same
  refine lc_range Pv h0 (fun i H hi p => ?_) h3
  have e : (0 : Int) + (i : Nat) = (i : Nat) := Int.zero_add _
  rw [e]
  exact h2 i H (by omega) p
theorem r_listRg {ta : TE} (k : ta σ H fun x H1 => ∃ n, x = .int n ∧ RgOk 0 n ∧ ∀ q, H1 q = none → Q (.ref q) (upd H1 q (.lst (rgV 0 n)))) : tLstRg (tRg1 ta) σ H Q := k
theorem r_rgN {n : Nat} (c : n ≤ 16777216) (k : ∀ l H', H l = none → Same H H' → H' l = some (.lst ((List.range n).map fun i : Nat => V.int i)) → Q (.ref l) H') :
    RgOk 0 (n : Int) ∧ ∀ q, H q = none → Q (.ref q) (upd H q (.lst (rgV 0 (n : Int)))) := by
  refine ⟨RgOk.of_le (by omega) (by omega) (by omega) (by omega), fun q hq => ?_⟩
  have e : rgV 0 (n : Int) = (List.range n).map fun i : Nat => V.int i := by
    unfold rgV
    rw [Int.sub_zero, Int.toNat_natCast]
    exact List.map_congr_left fun i _ => by rw [Int.zero_add]
  rw [e]
  exact k q _ hq (But.new (S := []) hq).same upd_same
end
/-! ### a disk as it was -/
def DM.ev (D : DM) : Option (Int × PyData) → DM
  | some u => D.write u.1 u.2
  | none => D.flush
def DM.play (D : DM) (es : List (Option (Int × PyData))) : DM := es.foldl DM.ev D
def DM.after (D : DM) (k : Nat) : DM := DM.play ⟨D.first, D.first, [], []⟩ (D.deeds.take k)
end J

set_option Elab.async false
set_option linter.all false
set_option maxRecDepth 100000
set_option maxHeartbeats 4000000
namespace J
open PySem L2 PyProof.Rows
/-! ### a def of a class, called by the class; exceptions with their own __init__ -/
/-- m, a plain def of the class at the module's name x, keeps the promise -/
structure CFn (P : Program) (w : World) (K : PySem.W.Frag) (mg : Str → Option Value) (base : Heap) (CX : CXT) (k : Nat) (x m : Str) (sp : Sp) : Prop where
  ex : ∃ (C f : Addr) (fd : FuncData) (ps : List Str), FnOk P w K mg base CX k f fd ps sp ∧ mg x = some (.ref C) ∧ ClX.CRead K C (.type "type") ∧ PySem.W.findCls K (.ref C) (.type "type") m = some (.val (.ref f)) ∧
    PySem.W.keepIn K (.ref f) = true ∧ Binds K fd ps []
section
variable {X : Cx} {CX : CXT} {k j : Nat} {sp : Sp} {E : L2.St → XK} {x m : Str} {p p2 pos : Pos} {e : Expr} {es : List Expr} {t : TA}
theorem pe_cfn {pl : Sem Bool} (c : CFn X.prog X.w X.K X.mg X.base CX k x m sp) (hr : Room j X.A) (hk : k ≤ j) (hx : ∀ σ, PassesAt CX X σ (E σ)) (ha : PA X (e :: es) t) (hg : Gl X x := by rfl)
    (hdb : (x == ("__debug__" : Str)) = false := by decide)
    (he : starEach (e :: es) X.env = (false, eval e X.env) :: starEach es X.env := by rfl) (hpl : (backTo pos (starEach es X.env)).any (·.1) = false := by rfl)
    (ht : eval (.Call (.Attribute (.Name x p) m p2) (e :: es) [] pos) X.env = (do
      let ov ← eval (.Name x p) X.env
      standAt p2.atName
      let (f, first) ← holding [ov] (getMethod ov m pl)
      callWith pos f first (backTo pos (starEach (e :: es) X.env)) (backToKw pos (keywordEach [] X.env))) := by rfl) :
    PE X (.Call (.Attribute (.Name x p) m p2) (e :: es) [] pos) (tCallS sp E t) := by
  obtain ⟨C, f, fd, ps, F, hm, rd, fc, kp, hb⟩ := c.ex
  refine ⟨fun pins s σ H Q I h => ?_⟩
  refine PySem.W.methodCall_KW (pl := pl) (ld_glob I hg hm ?_ hdb) ht
  refine PySem.W.method_cls I.kIn rd.ga (PySem.W.cls_value I.kIn rd.rd fc rfl ?_)
  refine PySem.W.callWith_K (h₀ := X.base) (first := []) I.ok.mod.kin kp (thn (ha.run pos pins _ σ H _ (I.tok _) h) fun us s1 ⟨vs, H1, I1, r, q⟩ => ⟨I1.kIn, ?_⟩) he hpl
  exact run_fnS F (hr.mono hk) hb (hx σ) I1 r q
end
/-- a class of exceptions with its own __init__ -/
structure Oex (P : Program) (w : World) (K : PySem.W.Frag) (mg : Str → Option Value) (base : Heap) (k : Nat) (x : Str) (C : Addr) (sp : Sp) : Prop where
  ex : ∃ (f : Addr) (fd : FuncData) (ps : List Str), FnOk P w K mg base CX0 k f fd ps sp ∧ OexC K C ∧ PySem.W.findIn K (.ref C) "__init__" = some (some (.ref f)) ∧ PySem.W.typeIn K (.ref f) = some (.type "function") ∧ mg x = some (.ref C) ∧ Binds K fd ps []
section
variable {X : Cx} {k j : Nat} {sp : Sp} {x : Str} {C : Addr} {p pos : Pos} {e : Expr} {es : List Expr} {ta : TA}
theorem pmk_x (c : Oex X.prog X.w X.K X.mg X.base k x C sp) (hr : Room j X.A) (hk : k + 1 ≤ j) (ha : PA X (e :: es) ta) (hg : Gl X x := by rfl)
    (hdb : (x == ("__debug__" : Str)) = false := by decide) (he : starEach (e :: es) X.env = (false, eval e X.env) :: starEach es X.env := by rfl) (hpl : (backTo pos (starEach es X.env)).any (·.1) = false := by rfl) :
    PMk X (.Call (.Name x p) (e :: es) [] pos) (tMkO C sp [] ta) := by
  obtain ⟨f, fd, ps, F, T, iC, tI, hm, hb⟩ := c.ex
  exact pmk_oex T iC tI F (hr.mono hk) hb .nil (fun _ _ _ _ _ _ _ h => h.elim) hg hm ha hdb he hpl
end
/-- what its __init__ leaves: the fields fs of the arguments -/
def spX (K : PySem.W.Frag) (ns : List Str) (fo : List V → Option (List (Str × V))) : Sp := fun vs H Q _ => ∃ (a C : Addr) (ws : List V) (fs : List (Str × V)), vs = .ref a :: ws ∧ fo ws = some fs ∧ OexC K C ∧ (∀ n ∈ ns, PySem.W.findIn K (.ref C) n = some none) ∧ H a = some (exo a C none) ∧
  ∀ d H', H d = none → d ≠ a → H' a = some (exo a C (some d)) → H' d = some (exd d fs) → (∀ b, b ≠ a → b ≠ d → H' b = H b) → Q .non H'
/-- X(e, ..) that is to be raised -/
def MkX (K : PySem.W.Frag) (ns : List Str) (fo : List V → Option (List (Str × V))) (C : Addr) (vs : List V) (H : Hp) (Q : XK) : Prop := vs.length ≤ 1000 ∧ ∃ fs, fo vs = some fs ∧ OexC K C ∧ (∀ n ∈ ns, PySem.W.findIn K (.ref C) n = some none) ∧
  ∀ d H', H d = none → Same H H' → H' d = some (.xd fs) → Q (.ref C) (some d) H'
def MkO (C : Addr) (sp : Sp) (dvs : List V) (vs : List V) (H1 : Hp) (Q : XK) : Prop := vs.length ≤ 1000 ∧ ∀ a, H1 a = none → sp (.ref a :: (vs ++ dvs)) (upd H1 a (exo a C none))
  (fun v H2 => v = .non ∧ ∃ (d : Addr) (fs : List (Str × V)), H2 a = some (exo a C (some d)) ∧ H2 d = some (exd d fs) ∧ H1 d = none ∧ Q (.ref C) (some d) (upd (del H2 a) d (.xd fs))) (fun _ _ _ => False)
theorem r_mkO {C : Addr} {sp : Sp} {dvs : List V} {ta : TA} {σ : L2.St} {H : Hp} {Q : XK} (k : ta σ H fun vs H1 => MkO C sp dvs vs H1 Q) : tMkO C sp dvs ta σ H Q := k
theorem r_mkX {K : PySem.W.Frag} {ns : List Str} {fo : List V → Option (List (Str × V))} {C : Addr} {vs : List V} {H1 : Hp} {Q : XK} (h : MkX K ns fo C vs H1 Q) : MkO C (spX K ns fo) [] vs H1 Q := by
  obtain ⟨hz, fs, hf, T, hn, q⟩ := h
  refine ⟨hz, fun a ha => ⟨a, C, vs, fs, by rw [List.append_nil], hf, T, hn, upd_same, fun d H' hd hda h1 h2 h3 => ⟨rfl, d, fs, h1, h2, ?_, ?_⟩⟩⟩
  · rw [upd_ne hda] at hd; exact hd
  · have hd1 : H1 d = none := by rw [upd_ne hda] at hd; exact hd
    refine q d _ hd1 (fun b o hb => ?_) upd_same
    have nb : b ≠ d := fun z => by rw [z, hd1] at hb; cases hb
    have na : b ≠ a := fun z => by rw [z, ha] at hb; cases hb
    rw [upd_ne nb, del_ne na, h3 b na nb, upd_ne na]; exact hb
/-- self.f = y in such an __init__ -/
def OstAt (K : PySem.W.Frag) (f : Str) (y x : V) (H2 : Hp) (R : Hp → Prop) : Prop := ∃ a C : Addr, x = .ref a ∧ OexC K C ∧ PySem.W.findIn K (.ref C) f = some none ∧
  ((H2 a = some (exo a C none) ∧ ∀ dx, H2 dx = none → dx ≠ a → R (upd (upd H2 dx (exd dx [(f, y)])) a (exo a C (some dx)))) ∨
    ∃ (dx : Addr) (fs : List (Str × V)), H2 a = some (exo a C (some dx)) ∧ H2 dx = some (exd dx fs) ∧ fs.length ≤ 900 ∧ R (upd H2 dx (exd dx ((f, y) :: fs))))
theorem r_ost {K : PySem.W.Frag} {f : Str} {to te : TE} {D : Ends} {σ : L2.St} {H : Hp} (k : te σ H fun y H1 => to σ H1 fun x H2 => OstAt K f y x H2 fun H3 => D.nx σ H3) : tOst K f to te D σ H := k
def VeAt (K : PySem.W.Frag) (vs : List V) (H1 : Hp) (Q : VK) : Prop := ∃ (a C : Addr) (ws : List V), vs = .ref a :: ws ∧ ws.length ≤ 1000 ∧ OexC K C ∧ H1 a = some (exo a C none) ∧ Q .non H1
theorem r_veI {K : PySem.W.Frag} {ta : TA} {σ : L2.St} {H : Hp} {Q : VK} (k : ta σ H fun vs H1 => VeAt K vs H1 Q) : tVeI K ta σ H Q := k
/-- e.f of the caught exception -/
theorem r_xf {a C : Addr} {d : Addr} {f : Str} {te : TE} {σ : L2.St} {H : Hp} {Q : VK} (k : te σ H fun x H1 => x = .ref a ∧ (.ref C : Value) = .ref C ∧ ∃ (dd : Addr) (fs : List (Str × V)) (v : V), some d = some dd ∧ H1 dd = some (.xd fs) ∧ fs.lookup f = some v ∧ Q v H1) : tXf a (.ref C) (some d) C f te σ H Q := k
theorem r_xfAt {a C d : Addr} {fs : List (Str × V)} {f : Str} {v : V} {H1 : Hp} {Q : VK} (h : H1 d = some (.xd fs)) (l : fs.lookup f = some v) (k : Q v H1) :
    V.ref a = .ref a ∧ (.ref C : Value) = .ref C ∧ ∃ (dd : Addr) (fs : List (Str × V)) (v : V), some d = some dd ∧ H1 dd = some (.xd fs) ∧ fs.lookup f = some v ∧ Q v H1 := ⟨rfl, rfl, d, fs, v, rfl, h, l, k⟩
/-! ### comprehensions over range(0, n, 8) -/
section
variable {σ : L2.St} {H : Hp} {Q : VK} {g : TG} {tt : TT} {te : TE} {vs : List Nat}
def LcR3 (g : TG) (tt : TT) (te : TE) (vs : List Nat) (σ : L2.St) (Q : VK) (ws : List V) (H : Hp) : Prop :=
  ∃ (i j c : Int) (n : Nat), ws = [.int i, .int j, .int c] ∧ RgC i j c n ∧ LcG (Itc i c n) g tt te vs σ Q H
theorem r_lcR3 {ta : TA} (k : ta σ H fun ws H1 => LcR3 g tt te vs σ Q ws H1) : tLc (iRng3 ta) g tt te vs σ H Q := k
theorem lcR8 {n : Nat} (hn : n ≤ 100000) (mk : ∀ l H0, H l = none → Same H H0 → H0 l = some (.lst []) → ∃ Pv : Nat → Hp → Prop, Pv 0 H0 ∧
      (∀ (i : Nat) H, 8 * i < n → Pv i H → LTurn g tt te vs l (Pv (i + 1)) (.int ((8 * i : Nat) : Int)) σ H) ∧ ∀ H, Pv ((n + 7) / 8) H → Q (.ref l) H) : LcR3 g tt te vs σ Q [.int 0, .int n, .int 8] H := by
  refine ⟨0, n, 8, (n + 7) / 8, rfl, rg8 hn, fun l hl => ?_⟩
  obtain ⟨Pv, h0, h2, h3⟩ := mk l _ hl (But.new (S := []) hl).same upd_same
  refine ⟨fun i m H => m = (n + 7) / 8 - i ∧ i ≤ (n + 7) / 8 ∧ Pv i H, ⟨_, rfl, Nat.zero_le _, h0⟩, ?_⟩
  rintro i m H ⟨rfl, hi, p⟩
  by_cases hlt : i < (n + 7) / 8
  · refine .inr ⟨hlt, Pv (i + 1), fun H' p' => ⟨_, by omega, rfl, hlt, p'⟩, fun x H' y => ?_⟩
    obtain ⟨rfl, rfl⟩ := y
    have e : (0 : Int) + (i : Nat) * 8 = ((8 * i : Nat) : Int) := by omega
    rw [e]
    exact h2 i _ (by omega) p
  · have e : i = (n + 7) / 8 := by omega
    subst e
    exact .inl ⟨Nat.le_refl _, h3 H p⟩
end
/-! ### methods that may raise -/
structure MetX (P : Program) (w : World) (K : PySem.W.Frag) (mg : Str → Option Value) (base : Heap) (CX : CXT) (k : Nat) (C : Addr) (m : Str) (sp : Sp) : Prop where
  ex : ∃ (f : Addr) (fd : FuncData) (ps : List Str), Cls K C ∧ Meth K C m f ∧ FnOk P w K mg base CX k f fd ps sp ∧ Binds K fd ps []
/-- o.m(e, ..) -/
def tMethS (C : Addr) (m : Str) (sp : Sp) (E : L2.St → XK) (ta : TE) (t : TA) : TE := fun σ H Q => ta σ H fun x H1 => ∃ a dx fs, x = .ref a ∧ H1 a = some (.ins C dx fs) ∧ fs.lookup m = none ∧ t σ H1 fun vs H2 => sp (x :: vs) H2 Q (E σ)
def MethAtS (C : Addr) (m : Str) (sp : Sp) (E : L2.St → XK) (σ : L2.St) (t : TA) (x : V) (H : Hp) (Q : VK) : Prop := ∃ a dx fs, x = .ref a ∧ H a = some (.ins C dx fs) ∧ fs.lookup m = none ∧ t σ H fun vs H2 => sp (x :: vs) H2 Q (E σ)
theorem r_methS {C : Addr} {m : Str} {sp : Sp} {E : L2.St → XK} {ta : TE} {t : TA} {σ : L2.St} {H : Hp} {Q : VK} (k : ta σ H fun x H1 => MethAtS C m sp E σ t x H1 Q) : tMethS C m sp E ta t σ H Q := k
theorem r_methAtS {C a dx : Addr} {m : Str} {sp : Sp} {E : L2.St → XK} {t : TA} {σ : L2.St} {H : Hp} {Q : VK} {fs : List (Str × V)} (h : H a = some (.ins C dx fs)) (l : fs.lookup m = none) (k : t σ H fun vs H2 => sp (.ref a :: vs) H2 Q (E σ)) : MethAtS C m sp E σ t (.ref a) H Q := ⟨a, dx, fs, rfl, h, l, k⟩
section
variable {X : Cx} {CX : CXT} {k j : Nat} {C : Addr} {m : Str} {sp : Sp} {E : L2.St → XK} {p pos apos : Pos} {e o : Expr} {es : List Expr} {ta : TE} {t : TA}
theorem pe_mx0 {pl : Sem Bool} (c : MetX X.prog X.w X.K X.mg X.base CX k C m sp) (hr : Room j X.A) (hk : k ≤ j) (hx : ∀ σ, PassesAt CX X σ (E σ)) (he : PE X o ta)
    (ht : eval (.Call (.Attribute o m apos) [] [] pos) X.env = (do
      let ov ← eval o X.env
      standAt apos.atName
      let (f, first) ← holding [ov] (getMethod ov m pl)
      callWith pos f first (backTo pos (starEach [] X.env)) (backToKw pos (keywordEach [] X.env))) := by rfl) :
    PE X (.Call (.Attribute o m apos) [] [] pos) (tMethS C m sp E ta tNil) := by
  obtain ⟨f, fd, ps, hc, hm, F, hb⟩ := c.ex
  refine ⟨fun pins s σ H Q I h => ?_⟩
  refine PySem.W.methodCall_KW (pl := pl) (thn (he.run pins s σ H _ I h) fun u s1 ⟨x, H1, I1, rx, a, dx, fs, ex, ea, l, q⟩ => ?_) ht
  subst ex
  obtain rfl : u = Value.ref a := rx
  refine getmeth_ok I1 ea hc hm l ?_
  exact PySem.W.callWith_K0 (first := [.ref a]) I1.kIn hm.kp (run_fnS (us := [.ref a]) (vs := [.ref a]) F (hr.mono hk) hb (hx σ) I1 (.cons rfl .nil) q)
theorem pe_mx {pl : Sem Bool} (c : MetX X.prog X.w X.K X.mg X.base CX k C m sp) (hr : Room j X.A) (hk : k ≤ j) (hx : ∀ σ, PassesAt CX X σ (E σ)) (he : PE X o ta) (ha : PA X (e :: es) t)
    (hst : starEach (e :: es) X.env = (false, eval e X.env) :: starEach es X.env := by rfl) (hpl : (backTo pos (starEach es X.env)).any (·.1) = false := by rfl)
    (ht : eval (.Call (.Attribute o m apos) (e :: es) [] pos) X.env = (do
      let ov ← eval o X.env
      standAt apos.atName
      let (f, first) ← holding [ov] (getMethod ov m pl)
      callWith pos f first (backTo pos (starEach (e :: es) X.env)) (backToKw pos (keywordEach [] X.env))) := by rfl) :
    PE X (.Call (.Attribute o m apos) (e :: es) [] pos) (tMethS C m sp E ta t) := by
  obtain ⟨f, fd, ps, hc, hm, F, hb⟩ := c.ex
  refine ⟨fun pins s σ H Q I h => ?_⟩
  refine PySem.W.methodCall_KW (pl := pl) (thn (he.run pins s σ H _ I h) fun u s1 ⟨x, H1, I1, rx, a, dx, fs, ex, ea, l, q⟩ => ?_) ht
  subst ex
  obtain rfl : u = Value.ref a := rx
  refine getmeth_ok I1 ea hc hm l ?_
  refine PySem.W.callWith_K (first := [.ref a]) (h₀ := X.base) I.ok.mod.kin hm.kp (thn (ha.run pos pins s1 σ H1 _ I1 q) fun us s2 ⟨vs, H2, I2, r, q2⟩ => ⟨I2.kIn, ?_⟩) hst hpl
  exact run_fnS (us := .ref a :: us) (vs := .ref a :: vs) F (hr.mono hk) hb (hx σ) I2 (.cons rfl r) q2
end
end J

set_option Elab.async false
set_option linter.all false
set_option maxRecDepth 100000
set_option maxHeartbeats 4000000
namespace J
open PySem L2 PyProof.Rows
/-! ### dicts from whole numbers to data -/
def getD' (m : List (Int × PyData)) (k : Int) : Option PyData := (m.find? fun q => decide (q.1 = k)).map (·.2)
def hasD (m : List (Int × PyData)) (k : Int) : Bool := m.any fun q => decide (q.1 = k)
def putD (m : List (Int × PyData)) (k : Int) (v : PyData) : List (Int × PyData) :=
  if hasD m k = true then m.map (fun q => if q.1 = k then (q.1, v) else q) else m ++ [(k, v)]
def dropD (m : List (Int × PyData)) (k : Int) : List (Int × PyData) := m.filter fun q => decide (q.1 ≠ k)
inductive KvD (K : PySem.W.Frag) (S : List Addr) (H : Hp) : List (L2.Key × V) → List (Int × PyData) → Prop
  | nil : KvD K S H [] []
  | cons {k : Int} {v : V} {d : PyData} {kvs : List (L2.Key × V)} {m : List (Int × PyData)} (h : Dn K S H v d) (t : KvD K S H kvs m) : KvD K S H ((.inl k, v) :: kvs) ((k, d) :: m)
section
variable {K : PySem.W.Frag} {S S' T : List Addr} {H H' : Hp} {kvs : List (L2.Key × V)} {m : List (Int × PyData)}
theorem KvD.same (s : Same H H') (h : KvD K S H kvs m) : KvD K S H' kvs m := by
  induction h with
  | nil => exact .nil
  | cons h _ ih => exact .cons (h.same s) ih
theorem KvD.nlb (h : KvD K S H kvs m) (n : ∀ c ∈ m, noL c.2 = true) (b : But T H H') : KvD K S' H' kvs m := by
  induction h with
  | nil => exact .nil
  | cons h _ ih => exact .cons (h.nlb (n _ List.mem_cons_self) b) (ih fun c hc => n c (List.mem_cons_of_mem _ hc))
theorem KvD.length (h : KvD K S H kvs m) : kvs.length = m.length := by
  induction h with
  | nil => rfl
  | cons _ _ ih => rw [List.length_cons, List.length_cons, ih]
theorem KvD.keys (h : KvD K S H kvs m) : kvs.map (·.1) = (m.map (·.1)).map Sum.inl := by
  induction h with
  | nil => rfl
  | cons _ _ ih => rw [List.map_cons, List.map_cons, List.map_cons, ih]
theorem KvD.get (h : KvD K S H kvs m) (k : Int) : match getD' m k with
    | none => valV kvs (.inl k) = none
    | some d => ∃ v, valV kvs (.inl k) = some v ∧ Dn K S H v d := by
  induction h with
  | nil => rfl
  | @cons k' v d kvs m h _ ih =>
    by_cases e : k' = k
    · have e1 : getD' ((k', d) :: m) k = some d := by unfold getD'; rw [List.find?_cons_of_pos (by simpa using e)]; rfl
      rw [e1]
      exact ⟨v, valV_pos (p := ((Sum.inl k' : L2.Key), v)) (by rw [e]), h⟩
    · have e1 : getD' ((k', d) :: m) k = getD' m k := by unfold getD'; rw [List.find?_cons_of_neg (by simpa using e)]
      have e2 : valV (((Sum.inl k' : L2.Key), v) :: kvs) (.inl k) = valV kvs (.inl k) := valV_neg (p := ((Sum.inl k' : L2.Key), v)) (fun z => e (Sum.inl.inj z))
      rw [e1, e2]; exact ih
theorem hasD_get (m : List (Int × PyData)) (k : Int) : hasD m k = (getD' m k).isSome := by
  unfold hasD getD'
  induction m with
  | nil => rfl
  | cons q m ih =>
    by_cases e : q.1 = k
    · rw [List.any_cons, List.find?_cons_of_pos (by simpa using e), decide_eq_true e]; rfl
    · rw [List.any_cons, List.find?_cons_of_neg (by simpa using e), decide_eq_false e, Bool.false_or, ih]
theorem KvD.some (h : KvD K S H kvs m) {k : Int} {d : PyData} (e : getD' m k = some d) : ∃ v, valV kvs (.inl k) = some v ∧ Dn K S H v d := by
  have := h.get k
  rw [e] at this; exact this
theorem KvD.none (h : KvD K S H kvs m) {k : Int} (e : getD' m k = none) : valV kvs (.inl k) = none := by
  have := h.get k
  rw [e] at this; exact this
theorem KvD.any (h : KvD K S H kvs m) (k : Int) : (kvs.any fun kv => decide (kv.1 = (.inl k : L2.Key))) = hasD m k := by
  rw [valV_any, hasD_get]
  cases e : getD' m k with
  | none => rw [h.none e]; rfl
  | some d =>
    obtain ⟨v, hv, _⟩ := h.some e
    rw [hv]; rfl
theorem KvD.put (h : KvD K S H kvs m) {k : Int} {v : V} {d : PyData} (hv : Dn K S H v d) : KvD K S H (putK kvs (.inl k) v) (putD m k d) := by
  unfold putK putD
  rw [h.any k]
  split
  · have mp : ∀ {kvs : List (L2.Key × V)} {m : List (Int × PyData)}, KvD K S H kvs m → KvD K S H (kvs.map fun kv => if kv.1 = (.inl k : L2.Key) then (kv.1, v) else kv) (m.map fun q => if q.1 = k then (q.1, d) else q) := by
      intro kvs m h
      induction h with
      | nil => exact .nil
      | @cons k2 v2 d2 kvs m h t ih =>
        rw [List.map_cons, List.map_cons]
        by_cases e : k2 = k
        · rw [if_pos (by rw [e]), if_pos e]; exact .cons hv ih
        · rw [if_neg (fun z => e (Sum.inl.inj z)), if_neg e]; exact .cons h ih
    exact mp h
  · have ap : ∀ {kvs : List (L2.Key × V)} {m : List (Int × PyData)}, KvD K S H kvs m → KvD K S H (kvs ++ [(.inl k, v)]) (m ++ [(k, d)]) := by
      intro kvs m h
      induction h with
      | nil => exact .cons hv .nil
      | cons h _ ih => exact .cons h ih
    exact ap h
theorem KvD.drop (h : KvD K S H kvs m) {k : Int} : KvD K S H (dropK kvs (.inl k)) (dropD m k) := by
  unfold dropK dropD
  induction h with
  | nil => exact .nil
  | @cons k' v' d' kvs m h t ih =>
    by_cases e : k' = k
    · rw [List.filter_cons_of_neg (by rw [e]; simp), List.filter_cons_of_neg (by simpa using e)]; exact ih
    · rw [List.filter_cons_of_pos (by simpa using fun z => e z), List.filter_cons_of_pos (by simpa using e)]; exact .cons h ih
end
theorem putD_length (m : List (Int × PyData)) (k : Int) (v : PyData) : (putD m k v).length ≤ m.length + 1 := by
  unfold putD
  split
  · rw [List.length_map]; omega
  · rw [List.length_append]; exact Nat.le_refl _
theorem putD_mem {m : List (Int × PyData)} {k : Int} {v : PyData} {c : Int × PyData} (h : c ∈ putD m k v) : c ∈ m ∨ c = (k, v) := by
  unfold putD at h
  split at h
  · obtain ⟨q, hq, e⟩ := List.mem_map.mp h
    split at e
    · rename_i hk; right; rw [← e, ← hk]
    · left; rw [← e]; exact hq
  · rcases List.mem_append.mp h with h | h
    · exact .inl h
    · exact .inr (List.mem_singleton.mp h)
theorem putD_keys {m : List (Int × PyData)} {k : Int} {v : PyData} (hm : (m.map (·.1)).Nodup) : ((putD m k v).map (·.1)).Nodup := by
  unfold putD
  split
  · rw [List.map_map]
    have e : ((fun q : Int × PyData => q.1) ∘ fun q => if q.1 = k then (q.1, v) else q) = fun q => q.1 := by
      funext q
      simp only [Function.comp]
      split <;> rfl
    rw [e]; exact hm
  · rename_i h
    rw [List.map_append]
    refine List.nodup_append.mpr ⟨hm, by simp, fun a ha b hb e => h ?_⟩
    rw [List.map_singleton, List.mem_singleton] at hb
    obtain ⟨q, hq, e2⟩ := List.mem_map.mp ha
    unfold hasD
    rw [List.any_eq_true]
    exact ⟨q, hq, decide_eq_true (by rw [e2, e, hb])⟩
theorem dropD_mem {m : List (Int × PyData)} {k : Int} {c : Int × PyData} (h : c ∈ dropD m k) : c ∈ m ∧ c.1 ≠ k := by
  obtain ⟨h1, h2⟩ := List.mem_filter.mp h
  exact ⟨h1, of_decide_eq_true h2⟩
theorem dropD_keys {m : List (Int × PyData)} {k : Int} (hm : (m.map (·.1)).Nodup) : ((dropD m k).map (·.1)).Nodup := hm.sublist ((List.filter_sublist).map _)
theorem getD_mem {m : List (Int × PyData)} {k : Int} {d : PyData} (h : getD' m k = some d) : (k, d) ∈ m := by
  unfold getD' at h
  obtain ⟨q, hq, e⟩ := Option.map_eq_some_iff.mp h
  have h1 := List.find?_some hq
  have h2 := List.mem_of_find?_eq_some hq
  have e1 := of_decide_eq_true h1
  rw [← e1, ← e]; exact h2
/-! ### their rules -/
section
variable {K : PySem.W.Frag} {S : List Addr} {H : Hp} {Q : VK} {a : Addr} {kvs : List (L2.Key × V)} {m : List (Int × PyData)} {k : Int} {v : V}
theorem r_dputD {R : Hp → Prop} (h : H a = some (.dK kvs)) (c : kvs.length < sizeLine) (q : ∀ H', But [a] H H' → H' a = some (.dK (putK kvs (.inl k) v)) → R H') :
    ∃ b H4, V.ref a = .ref b ∧ DPut H b (.int k) v H4 ∧ R H4 :=
  ⟨a, _, rfl, DPut.k (k := .inl k) h c, q _ (But.write h (fun z => z) (by simp)) upd_same⟩
theorem r_clearD (h : H a = some (.dK kvs)) (q : ∀ H', But [a] H H' → H' a = some (.dK []) → Q .non H') : rDClear (.ref a) [] H Q :=
  ⟨a, kvs, rfl, rfl, h, q _ (But.write h (fun z => z) (by simp)) upd_same⟩
end
theorem upd_exK {H : Hp} {a : Addr} {kvs : List (L2.Key × V)} {o' : HO} (h : H a = some (.dK kvs)) : ∃ H', upd H a o' = H' ∧ But [a] H H' ∧ H' a = some o' := ⟨_, rfl, But.write h (fun z => z) (by simp), upd_same⟩
/-- d.pop(k, x) -/
theorem r_dpop2 {td ty tx : TE} {σ : L2.St} {H : Hp} {Q : VK} (k : td σ H fun x H1 => ∃ a, x = .ref a ∧ IsD H1 a ∧ ty σ H1 fun y H2 => tx σ H2 fun z H3 => ∃ kvs k, H3 a = some (.dK kvs) ∧ y = kV k ∧ (∀ v, valV kvs k = some v → Q v (upd H3 a (.dK (dropK kvs k)))) ∧ (valV kvs k = none → Q z H3)) : tDPop2 td ty tx σ H Q := k
/-- d.pop(k) -/
theorem r_dpop1 {td ty : TE} {σ : L2.St} {H : Hp} {Q : VK} (k : td σ H fun x H1 => ∃ a, x = .ref a ∧ IsD H1 a ∧ ty σ H1 fun y H2 => ∃ kvs k v, H2 a = some (.dK kvs) ∧ y = kV k ∧ valV kvs k = some v ∧ Q v (upd H2 a (.dK (dropK kvs k)))) : tDPop1 td ty σ H Q := k
/-- d[k] -/
def DAt (x y : V) (H : Hp) (Q : VK) : Prop := ∃ a v, x = .ref a ∧ DGet H a y (some v) ∧ Q v H
theorem r_dget {td ty : TE} {σ : L2.St} {H : Hp} {Q : VK} (k : td σ H fun x H1 => ty σ H1 fun y H2 => DAt x y H2 Q) : tDGet td ty σ H Q := k
theorem r_dAt {H : Hp} {a : Addr} {kvs : List (L2.Key × V)} {k : Int} {v : V} {Q : VK} (h : H a = some (.dK kvs)) (e : valV kvs (.inl k) = some v) (q : Q v H) : DAt (.ref a) (.int k) H Q := ⟨a, v, rfl, e ▸ DGet.k (k := .inl k) h, q⟩
theorem r_dAtS {H : Hp} {a : Addr} {kvs : List (L2.Key × V)} {k : Str} {v : V} {Q : VK} (h : H a = some (.dK kvs)) (e : valV kvs (.inr k) = some v) (q : Q v H) : DAt (.ref a) (.str k) H Q := ⟨a, v, rfl, e ▸ DGet.k (k := .inr k) h, q⟩
/-- k in d -/
def DInAt (b : Bool) (x y : V) (H : Hp) (Q : VK) : Prop := ∃ a o, x = .ref a ∧ DGet H a y o ∧ Q (.bl (o.isSome != b)) H
theorem r_din {td ty : TE} {σ : L2.St} {H : Hp} {Q : VK} (k : ty σ H fun y H1 => td σ H1 fun x H2 => ∃ a o, x = .ref a ∧ DGet H2 a y o ∧ Q (.bl o.isSome) H2) : tDIn ty td σ H Q := k
theorem r_dnin {td ty : TE} {σ : L2.St} {H : Hp} {Q : VK} (k : ty σ H fun y H1 => td σ H1 fun x H2 => ∃ a o, x = .ref a ∧ DGet H2 a y o ∧ Q (.bl (!o.isSome)) H2) : tDNotIn ty td σ H Q := k
theorem r_dinAt {K : PySem.W.Frag} {S : List Addr} {H : Hp} {a : Addr} {kvs : List (L2.Key × V)} {m : List (Int × PyData)} {k : Int} {R : Bool → Prop} (h : H a = some (.dK kvs)) (hm : KvD K S H kvs m) (q : R (hasD m k)) : ∃ b o, V.ref a = .ref b ∧ DGet H b (.int k) o ∧ R o.isSome := by
  refine ⟨a, _, rfl, DGet.k (k := .inl k) h, ?_⟩
  have e : (valV kvs (.inl k)).isSome = hasD m k := by rw [← valV_any, hm.any k]
  rw [e]; exact q
/-! ### a rule left out: a text or None -/
def ruleV : Option Str → V
  | none => .non
  | some s => .str s
def ruleD : Option Str → PyData
  | none => .none
  | some s => .str s
theorem rule_dn {K : PySem.W.Frag} {S : List Addr} {H : Hp} : ∀ wo, Dn K S H (ruleV wo) (ruleD wo)
  | none => .non
  | some _ => .str _
end J

set_option Elab.async false
set_option linter.all false
set_option maxRecDepth 100000
set_option maxHeartbeats 4000000
namespace J
open PySem L2 PyProof.Rows
/-! ### dicts with text keys; dict == {}; list.remove -/
def rEqDE : R2 := fun x y H Q => ∃ a b kvs, x = .ref a ∧ y = .ref b ∧ H a = some (.dK kvs) ∧ H b = some (.dK []) ∧ Q (.bl kvs.isEmpty) H
theorem op_eqDE {X : Cx} (hu : X.A.units + 64 < cLine) : OpR X (compareOp .Eq) rEqDE := by
  intro pins s σ H x y v u Q I rx ry h
  obtain ⟨a, b, ks, rfl, rfl, ea, eb, q⟩ := h
  obtain rfl : v = Value.ref a := rx
  obtain rfl : u = Value.ref b := ry
  obtain ⟨_, ya, va, ra, da⟩ := (show ObjOk X.prog X.w H s.heap a (.dK ks) from I.hok a _ ea)
  obtain ⟨_, yb, vb, rb, db⟩ := (show ObjOk X.prog X.w H s.heap b (.dK []) from I.hok b _ eb)
  have hl : va.length = ks.length := ra.length.symm
  have hb : vb.length = 0 := rb.length.symm
  refine PySem.W.keq_eq (knd := mixKind X.prog X.w) (r := true) ya yb da db (by omega) (fun e => ?_) ⟨.bl _, H, I, ?_, q⟩
  · have : va = [] := List.length_eq_zero_iff.mp (by omega)
    subst this
    exact .nil
  · show Value.bool _ = Value.bool _
    rw [hl, hb]
    cases ks <;> rfl
theorem r_eqDE {H : Hp} {Q : VK} {a b : Addr} {kvs : List (L2.Key × V)} (h : H a = some (.dK kvs)) (h2 : H b = some (.dK [])) (q : Q (.bl kvs.isEmpty) H) : rEqDE (.ref a) (.ref b) H Q := ⟨a, b, kvs, rfl, rfl, h, h2, q⟩
section
variable {H : Hp} {Q : VK} {σ : L2.St} {trs : List (TE × TE)} {tk tv : TE}
def DispAt (p : Addr) (ps : List (V × V)) (H2 : Hp) (Q : VK) : Prop := H2 p = some (.dK []) ∧ ∃ kvs : List (L2.Key × V), ps = kvs.map (fun kv => (kV kv.1, kv.2)) ∧ kvs.length ≤ 15 ∧ Q (.ref p) (upd H2 p (.dK (mergeK [] kvs)))
theorem r_disp (k : ∀ p H1, H p = none → Same H H1 → H1 p = some (.dK []) → tPairs trs σ H1 fun ps H2 => DispAt p ps H2 Q) : tDisp trs σ H Q := fun p hp => k p _ hp (But.new (S := []) hp).same upd_same
theorem r_pcons {Q : List (V × V) → Hp → Prop} (k : tk σ H fun x H1 => tv σ H1 fun y H2 => tPairs trs σ H2 fun ps H3 => Q ((x, y) :: ps) H3) : tPairs ((tk, tv) :: trs) σ H Q := k
theorem r_pnil {Q : List (V × V) → Hp → Prop} (k : Q [] H) : tPairs [] σ H Q := k
theorem dispAt {p : Addr} {ps : List (V × V)} (kvs : List (L2.Key × V)) (h : H p = some (.dK [])) (e : ps = kvs.map (fun kv => (kV kv.1, kv.2))) (l : kvs.length ≤ 15) (em : mergeK [] kvs = kvs) (q : ∀ H', But [p] H H' → H' p = some (.dK kvs) → Q (.ref p) H') : DispAt p ps H Q :=
  ⟨h, kvs, e, l, by rw [em]; exact q _ (But.write h (fun z => z) (by simp)) upd_same⟩
end
theorem r_dputS {R : Hp → Prop} {H : Hp} {a : Addr} {kvs kvs' : List (L2.Key × V)} {k : Str} {v : V} (h : H a = some (.dK kvs)) (c : kvs.length < sizeLine) (e : putK kvs (.inr k) v = kvs') (q : ∀ H', But [a] H H' → H' a = some (.dK kvs') → R H') :
    ∃ b H4, V.ref a = .ref b ∧ DPut H b (.str k) v H4 ∧ R H4 :=
  ⟨a, _, rfl, DPut.k (k := .inr k) h c, q _ (But.write h (fun z => z) (by simp)) (by rw [upd_same, e])⟩
/-- xs.remove(k) -/
theorem r_rem {H : Hp} {Q : VK} {a : Addr} {ns : List Int} {k : Int} (h : H a = some (.lst (ns.map V.int))) (hk : k ∈ ns) (q : ∀ H', But [a] H H' → H' a = some (.lst ((ns.erase k).map V.int)) → Q .non H') : rRemI (.ref a) [.int k] H Q := by
  refine ⟨a, ns, k, ns.idxOf k, rfl, rfl, h, List.getElem?_eq_some_iff.mpr ⟨List.idxOf_lt_length_of_mem hk, List.getElem_idxOf _⟩, fun m hm e => ?_, ?_⟩
  · have hlt : m < ns.length := (List.getElem?_eq_some_iff.mp e).1
    have e2 := (List.getElem?_eq_some_iff.mp e).2
    have h9 := List.not_of_lt_findIdx (p := (· == k)) hm
    simp [e2] at h9
  · rw [← List.erase_eq_eraseIdx_of_idxOf rfl]
    exact q _ (But.write h (fun z => z) (by simp)) upd_same
theorem okTup2 {n m k : Nat} {d e : PyData} (h : Ok n k d) (h' : Ok m k e) : Ok (n + m + 7) (k + 1) (.tuple [d, e]) := by
  have hn : OkAll (n + m) k [d, e] := .cons (h.mono (by omega) (Nat.le_refl _)) (.cons (h'.mono (by omega) (Nat.le_refl _)) .nil)
  refine ⟨all_lay hn, all_show hn, Nat.succ_le_succ (all_dep hn), ?_⟩
  have h1 := tupleText_le (PyData.shownAll [d, e])
  have h2 : piled (PyData.shownAll [d, e]) ≤ n + 2 + (m + 2) := by
    show piled (d.shown :: e.shown :: []) ≤ _
    rw [piled_cons, piled_cons]
    have := h.len
    have := h'.len
    have e0 : piled [] = 0 := rfl
    omega
  simp only [PyData.shown]
  omega
theorem okTup3 {n m l k : Nat} {d e f : PyData} (h : Ok n k d) (h' : Ok m k e) (h'' : Ok l k f) : Ok (n + m + l + 9) (k + 1) (.tuple [d, e, f]) := by
  have hn : OkAll (n + m + l) k [d, e, f] := .cons (h.mono (by omega) (Nat.le_refl _)) (.cons (h'.mono (by omega) (Nat.le_refl _)) (.cons (h''.mono (by omega) (Nat.le_refl _)) .nil))
  refine ⟨all_lay hn, all_show hn, Nat.succ_le_succ (all_dep hn), ?_⟩
  have h1 := tupleText_le (PyData.shownAll [d, e, f])
  have h2 : piled (PyData.shownAll [d, e, f]) ≤ n + 2 + (m + 2 + (l + 2)) := by
    show piled (d.shown :: e.shown :: f.shown :: []) ≤ _
    rw [piled_cons, piled_cons, piled_cons]
    have := h.len
    have := h'.len
    have := h''.len
    have e0 : piled [] = 0 := rfl
    omega
  simp only [PyData.shown]
  omega
theorem call_sortedL {X : Cx} {K : PySem.W.Frag} (e : X.K = K := by rfl) : CallR X (.builtin "sorted") (rSorted K) := by subst e; exact cr_sorted
/-! ### the law's own dict of a journal, and of a kept transaction -/
section
variable (s h n hd lk dc lr wo ld le x : V)
def mF : List (L2.Key × V) := [(.inr "slots", s), (.inr "homes", h), (.inr "next", n), (.inr "head", hd), (.inr "kept", lk), (.inr "copies", dc), (.inr "revokes", lr), (.inr "rule", wo), (.inr "disk", ld), (.inr "events", le)]
theorem mv_slots : valV (mF s h n hd lk dc lr wo ld le) (.inr "slots") = some s := by with_unfolding_all rfl
theorem mv_homes : valV (mF s h n hd lk dc lr wo ld le) (.inr "homes") = some h := by with_unfolding_all rfl
theorem mv_next : valV (mF s h n hd lk dc lr wo ld le) (.inr "next") = some n := by with_unfolding_all rfl
theorem mv_head : valV (mF s h n hd lk dc lr wo ld le) (.inr "head") = some hd := by with_unfolding_all rfl
theorem mv_kept : valV (mF s h n hd lk dc lr wo ld le) (.inr "kept") = some lk := by with_unfolding_all rfl
theorem mv_copies : valV (mF s h n hd lk dc lr wo ld le) (.inr "copies") = some dc := by with_unfolding_all rfl
theorem mv_revokes : valV (mF s h n hd lk dc lr wo ld le) (.inr "revokes") = some lr := by with_unfolding_all rfl
theorem mv_rule : valV (mF s h n hd lk dc lr wo ld le) (.inr "rule") = some wo := by with_unfolding_all rfl
theorem mv_disk : valV (mF s h n hd lk dc lr wo ld le) (.inr "disk") = some ld := by with_unfolding_all rfl
theorem mv_events : valV (mF s h n hd lk dc lr wo ld le) (.inr "events") = some le := by with_unfolding_all rfl
theorem mp_next : putK (mF s h n hd lk dc lr wo ld le) (.inr "next") x = mF s h x hd lk dc lr wo ld le := by with_unfolding_all rfl
theorem mp_head : putK (mF s h n hd lk dc lr wo ld le) (.inr "head") x = mF s h n x lk dc lr wo ld le := by with_unfolding_all rfl
theorem mp_kept : putK (mF s h n hd lk dc lr wo ld le) (.inr "kept") x = mF s h n hd x dc lr wo ld le := by with_unfolding_all rfl
theorem mp_copies : putK (mF s h n hd lk dc lr wo ld le) (.inr "copies") x = mF s h n hd lk x lr wo ld le := by with_unfolding_all rfl
theorem mp_revokes : putK (mF s h n hd lk dc lr wo ld le) (.inr "revokes") x = mF s h n hd lk dc x wo ld le := by with_unfolding_all rfl
/-- as it is made: its disk and its events come last -/
def mF8 : List (L2.Key × V) := [(.inr "slots", s), (.inr "homes", h), (.inr "next", n), (.inr "head", hd), (.inr "kept", lk), (.inr "copies", dc), (.inr "revokes", lr), (.inr "rule", wo)]
def mF9 : List (L2.Key × V) := [(.inr "slots", s), (.inr "homes", h), (.inr "next", n), (.inr "head", hd), (.inr "kept", lk), (.inr "copies", dc), (.inr "revokes", lr), (.inr "rule", wo), (.inr "disk", ld)]
theorem mp_disk8 : putK (mF8 s h n hd lk dc lr wo) (.inr "disk") x = mF9 s h n hd lk dc lr wo x := by with_unfolding_all rfl
theorem mp_events9 : putK (mF9 s h n hd lk dc lr wo ld) (.inr "events") x = mF s h n hd lk dc lr wo ld x := by with_unfolding_all rfl
theorem mm8 : mergeK [] (mF8 s h n hd lk dc lr wo) = mF8 s h n hd lk dc lr wo := by with_unfolding_all rfl
end
section
variable (n z dc lr s l x : V)
def kF5 : List (L2.Key × V) := [(.inr "number", n), (.inr "size", z), (.inr "copies", dc), (.inr "revokes", lr), (.inr "slot", s)]
def kF : List (L2.Key × V) := [(.inr "number", n), (.inr "size", z), (.inr "copies", dc), (.inr "revokes", lr), (.inr "slot", s), (.inr "left", l)]
theorem kv_number : valV (kF n z dc lr s l) (.inr "number") = some n := by with_unfolding_all rfl
theorem kv_size : valV (kF n z dc lr s l) (.inr "size") = some z := by with_unfolding_all rfl
theorem kv_copies : valV (kF n z dc lr s l) (.inr "copies") = some dc := by with_unfolding_all rfl
theorem kv_revokes : valV (kF n z dc lr s l) (.inr "revokes") = some lr := by with_unfolding_all rfl
theorem kv_slot : valV (kF n z dc lr s l) (.inr "slot") = some s := by with_unfolding_all rfl
theorem kv_left : valV (kF n z dc lr s l) (.inr "left") = some l := by with_unfolding_all rfl
theorem kp_left5 : putK (kF5 n z dc lr s) (.inr "left") x = kF n z dc lr s x := by with_unfolding_all rfl
theorem kp_left : putK (kF n z dc lr s l) (.inr "left") x = kF n z dc lr s x := by with_unfolding_all rfl
theorem km5 : mergeK [] (kF5 n z dc lr s) = kF5 n z dc lr s := by with_unfolding_all rfl
end
end J

set_option Elab.async false
set_option linter.all false
set_option maxRecDepth 100000
set_option maxHeartbeats 4000000
namespace J
open PySem L2 PyProof.Rows
/-! ### list == [] whatever the list holds -/
def rEqLE : R2 := fun x y H Q => ∃ a b xs, x = .ref a ∧ y = .ref b ∧ H a = some (.lst xs) ∧ H b = some (.lst []) ∧ Q (.bl xs.isEmpty) H
def rNeLE : R2 := fun x y H Q => ∃ a b xs, x = .ref a ∧ y = .ref b ∧ H a = some (.lst xs) ∧ H b = some (.lst []) ∧ Q (.bl (!xs.isEmpty)) H
theorem op_eqLE {X : Cx} (hu : X.A.units + 64 < cLine) : OpR X (compareOp .Eq) rEqLE := by
  intro pins s σ H x y v u Q I rx ry h
  obtain ⟨a, b, xs, rfl, rfl, ea, eb, q⟩ := h
  obtain rfl : v = Value.ref a := rx
  obtain rfl : u = Value.ref b := ry
  obtain ⟨_, its, n, r, hl, e⟩ := I.lstM ea
  obtain ⟨_, its2, n2, r2, hl2, e2⟩ := I.lstM eb
  have z2 : its2 = [] := List.length_eq_zero_iff.mp hl2.symm
  subst z2
  have la : s.heap.IsList a its.toArray := ⟨_, e, rfl, n, rfl⟩
  have lb : s.heap.IsList b ([] : List Value).toArray := ⟨_, e2, rfl, n2, rfl⟩
  cases xs with
  | nil =>
    have z1 : its = [] := List.length_eq_zero_iff.mp hl.symm
    subst z1
    exact PySem.SeqAt.RcAt.lists (e := fun _ => true) la lb rfl (by omega) (fun j h1 h2 => absurd h1 (Nat.not_lt_zero _)) _ _ _ _ ⟨.bl true, H, I, rfl, q⟩
  | cons x0 xs0 =>
    exact PySem.SeqAt.RcAt.lists_lengths la lb (by rw [List.size_toArray, List.size_toArray, ← hl]; rfl) (by omega) _ _ _ _ ⟨.bl false, H, I, rfl, q⟩
theorem op_neLE {X : Cx} (hu : X.A.units + 64 < cLine) : OpR X (compareOp .NotEq) rNeLE := by
  intro pins s σ H x y v u Q I rx ry h
  obtain ⟨a, b, xs, rfl, rfl, ea, eb, q⟩ := h
  obtain rfl : v = Value.ref a := rx
  obtain rfl : u = Value.ref b := ry
  obtain ⟨_, its, n, r, hl, e⟩ := I.lstM ea
  obtain ⟨_, its2, n2, r2, hl2, e2⟩ := I.lstM eb
  have z2 : its2 = [] := List.length_eq_zero_iff.mp hl2.symm
  subst z2
  have la : s.heap.IsList a its.toArray := ⟨_, e, rfl, n, rfl⟩
  have lb : s.heap.IsList b ([] : List Value).toArray := ⟨_, e2, rfl, n2, rfl⟩
  cases xs with
  | nil =>
    have z1 : its = [] := List.length_eq_zero_iff.mp hl.symm
    subst z1
    exact PySem.SeqAt.RcNeAt.lists (e := fun _ => true) la lb rfl (by omega) (fun j h1 h2 => absurd h1 (Nat.not_lt_zero _)) _ _ _ _ ⟨.bl false, H, I, rfl, q⟩
  | cons x0 xs0 =>
    exact PySem.SeqAt.RcNeAt.lists_lengths la lb (by rw [List.size_toArray, List.size_toArray, ← hl]; rfl) (by omega) _ _ _ _ ⟨.bl true, H, I, rfl, q⟩
theorem r_eqLE {H : Hp} {Q : VK} {a b : Addr} {xs : List V} (h : H a = some (.lst xs)) (h2 : H b = some (.lst [])) (q : Q (.bl xs.isEmpty) H) : rEqLE (.ref a) (.ref b) H Q := ⟨a, b, xs, rfl, rfl, h, h2, q⟩
theorem r_neLE {H : Hp} {Q : VK} {a b : Addr} {xs : List V} (h : H a = some (.lst xs)) (h2 : H b = some (.lst [])) (q : Q (.bl (!xs.isEmpty)) H) : rNeLE (.ref a) (.ref b) H Q := ⟨a, b, xs, rfl, rfl, h, h2, q⟩
end J

set_option Elab.async false
set_option linter.all false
set_option maxRecDepth 100000
set_option maxHeartbeats 4000000
namespace J
open PySem PySem.Spec L2 L2.DX PyProof.Rows
/-! ### sorted(d.items()), d with int keys and any values -/
def IsPr (h : Heap) (v : Value) (x : Int) : Prop := ∃ (a : Addr) (o : Obj) (t : Tok) (y : Value) (n : Nat), v = .ref a ∧ h.get? a = some o ∧ o.cls = .type "tuple" ∧ o.data = .seq #[.int x t, y] n
theorem IsPr.keeps {h h' : Heap} {v : Value} {x : Int} (p : IsPr h v x) (k : ∀ b o, h.get? b = some o → o.cls = .type "tuple" → h'.get? b = some o) : IsPr h' v x := by
  obtain ⟨a, o, t, u, n, e, ho, hc, hd⟩ := p
  exact ⟨a, o, t, u, n, e, k _ _ ho hc, hc, hd⟩
theorem prFirsts {h : Heap} : ∀ {vs : List Value}, (∀ v ∈ vs, ∃ x, IsPr h v x) → ∃ fs : List Value, PySem.W.KatTups h vs fs ∧ fs.length = vs.length ∧ ∀ f ∈ fs, ∃ x t, f = Value.int x t
  | [], _ => ⟨[], PySem.W.KatTups.nil, rfl, fun _ hm => by simp at hm⟩
  | v :: vs, hp => by
    obtain ⟨fs, h1, h2, h3⟩ := prFirsts (vs := vs) fun v' hm => hp v' (List.mem_cons_of_mem _ hm)
    obtain ⟨x, a, o, t, u, n, e, ho, hc, hd⟩ := hp v List.mem_cons_self
    subst e
    refine ⟨.int x t :: fs, PySem.W.KatTups.cons ho hc hd rfl h1, by rw [List.length_cons, List.length_cons, h2], fun f hm => ?_⟩
    rcases List.mem_cons.mp hm with rfl | hm
    · exact ⟨x, t, rfl⟩
    · exact h3 f hm
theorem swo_int' (k : Value → Int) : SrtO.Swo fun v u => decide (k v < k u) := by
  refine ⟨fun x y h => ?_, fun x y z h1 h2 => ?_⟩
  · have := of_decide_eq_true h
    exact decide_eq_false (by omega)
  · have := of_decide_eq_false h1
    have := of_decide_eq_false h2
    exact decide_eq_false (by omega)
section
variable {prog : Program} {w : World} {A : Around} {s : Shared}
theorem pr_cmp {vs : List Value} {k : Value → Int} (hp : ∀ v ∈ vs, IsPr s.heap v (k v)) (inj : ∀ v ∈ vs, ∀ u ∈ vs, k v = k u → v = u) : SrtO.Cmp prog w A s (PyProof.Rows.tuples' true) (fun p => p.1 ∈ vs) (SrtO.lt2 fun v u => decide (k v < k u)) := by
  intro p q hm hm'
  have h1 := hp _ hm
  have h2 := hp _ hm'
  have hi := inj _ hm _ hm'
  show wpAny (model prog w) A (PyProof.Rows.keyLt' (PyProof.Rows.tuples' true) p.1 q.1) (fun r s' => s' = s ∧ r = decide (k p.1 < k q.1)) (fun _ _ => False) s
  generalize k p.1 = x at h1 hi ⊢
  generalize k q.1 = x' at h2 hi ⊢
  obtain ⟨a, o, t, y, n, e, ho, hc, hd⟩ := h1
  obtain ⟨a', o', t', y', n', e', ho', hc', hd'⟩ := h2
  rw [e, e'] at hi ⊢
  refine PySem.W.kat_lt ho hd ho' hd' ?_
  show PySem.W.KatLex prog w A true (decide (2 < 2)) _ [(.int x t, .int x' t'), (y, y')] 0 s
  refine PySem.W.kat_cons (SeqAt.EqAt.int_int x t x' t' prog w _ _ ?_)
  refine PySem.W.kat_go (fun e1 => ?_) (fun e1 => ?_)
  · have ex : x = x' := by simpa using e1
    have ea := hi ex
    cases ea
    have eo : o = o' := Option.some.inj (ho.symm.trans ho')
    subst eo
    have ed := hd.symm.trans hd'
    have ey : y = y' := by
      have h9 : (#[Value.int x t, y] : Array Value) = #[Value.int x' t', y'] := by injection ed
      have h10 := congrArg Array.toList h9
      simp at h10
      exact h10.2
    subst ey
    refine PySem.W.kat_yes (PySem.W.kat_cons (SeqAt.EqAt.same y prog w _ _ ?_))
    refine PySem.W.kat_yes (PySem.W.kat_nil ⟨rfl, ?_⟩)
    exact (decide_eq_false (by omega)).symm
  · exact PySem.W.kat_no (oneLt_int ⟨rfl, rfl⟩)
theorem pr_sortable {a : Addr} {vs : List Value} {k : Value → Int} (h0 : 0 < vs.length) (hp : ∀ v ∈ vs, IsPr s.heap v (k v)) (inj : ∀ v ∈ vs, ∀ u ∈ vs, k v = k u → v = u) (ha : ∀ o, s.heap.get? a = some o → o.cls ≠ .type "tuple") : SrtO.SortableO prog w A s a vs fun v u => decide (k v < k u) := by
  intro h' keep
  have hp' : ∀ v ∈ vs, IsPr h' v (k v) := fun v hm => (hp v hm).keeps fun b o e c => keep b o (fun z => by subst z; exact ha o e c) e
  obtain ⟨fs, h1, h2, h3⟩ := prFirsts fun v hm => ⟨_, hp' v hm⟩
  refine ⟨PyProof.Rows.tuples' true, fun Q E hq => ?_, pr_cmp hp' inj⟩
  refine PySem.W.kat_kind (T := .type "int") h1 (by omega) (fun f hm => ?_) (by rfl) ?_
  · obtain ⟨x, t, rfl⟩ := h3 f hm
    exact PySem.W.Looks.now
  · have e : (Value.type "int" != Value.type "tuple") = true := by first | decide +kernel | rfl | decide
    rw [e]
    exact hq
end
/-- xs.sort(), pairs with different ints ahead -/
def rSortPr : V → List V → Hp → VK → Prop := fun x xs H Q => ∃ (a : Addr) (ys : List V) (k : V → Int), x = V.ref a ∧ xs = [] ∧ H a = some (.lst ys) ∧ (∀ y ∈ ys, ∃ t z, y = V.ref t ∧ H t = some (.tup [.int (k y), z])) ∧ (∀ y ∈ ys, ∀ z ∈ ys, k y = k z → y = z) ∧
  ∀ zs, zs.Perm ys → (zs.map k).Pairwise (· ≤ ·) → Q .non (upd H a (.lst zs))
section
variable {X : Cx} {K : PySem.W.Frag}
theorem mt_sortPr : MtR X "list.sort" rSortPr := by
  intro pins s σ H x xs v us Q I rx rxs h
  obtain ⟨a, ys, k, rfl, rfl, ha, hx, inj, q⟩ := h
  cases rx
  cases rxs
  obtain ⟨hz, its, n, rv, hob⟩ := I.hok a _ ha
  obtain ⟨e1, e2⟩ := refs_back rv fun x m => by
    obtain ⟨t, _, e, _⟩ := hx x m
    exact ⟨t, e⟩
  have hm1 : ∀ v ∈ its, backV v ∈ ys := fun v hv => by rw [e1]; exact List.mem_map.mpr ⟨_, hv, rfl⟩
  have hp : ∀ v ∈ its, IsPr s.heap v (k (backV v)) := fun v hv => by
    have hm := hm1 v hv
    obtain ⟨t, rfl⟩ := e2 v hv
    obtain ⟨t', z, e, ht⟩ := hx _ hm
    cases e
    obtain ⟨_, its2, r2, o, ho, hc, n, hd⟩ := I.hok _ _ ht
    obtain ⟨u1, u2, rfl, ri, rj⟩ := vals2 r2
    obtain ⟨t1, rfl⟩ := ri
    exact ⟨t, o, t1, u2, n, rfl, ho, hc, hd⟩
  have hij : ∀ v ∈ its, ∀ u ∈ its, k (backV v) = k (backV u) → v = u := fun v hv u hu e => by
    have := inj _ (hm1 v hv) _ (hm1 u hu) e
    obtain ⟨t, rfl⟩ := e2 v hv
    obtain ⟨t', rfl⟩ := e2 u hu
    have e9 : V.ref t = V.ref t' := this
    cases e9; rfl
  refine wpAny_call_entry PyProof.Rows.slot_list_sort ⟨_, hob, rfl⟩ PyProof.Rows.entry_list_sort
    (SrtO.list_sort_ord (swo_int' fun u => k (backV u)) hob (by rw [← rv.length]; exact hz) (fun h2 => pr_sortable (by omega) hp hij fun o e => ?_) fun out h1 h2 => ⟨.none, rfl, ?_⟩) (PyProof.Rows.args_list_sort _)
  · have e' : some o = some (seqObj "list" its.toArray n) := e.symm.trans hob
    cases e'
    intro c
    exact absurd (Value.type.inj c) (by decide)
  · have h3 : ∀ u ∈ out, ∃ a, u = Value.ref a := fun u hu => e2 u (h2.perm.mem_iff.mp hu)
    obtain ⟨ep, he'⟩ := PyProof.Rows.sortedHeap_at (vs := its) (out := out.toArray) hob
    have hperm : (out.map backV).Perm ys := by
      rw [e1]
      exact h2.perm.map _
    have hlen : (out.map backV).length ≤ sizeLine := by
      rw [hperm.length_eq]
      exact hz
    have hup : ((out.map backV).map k).Pairwise (· ≤ ·) := by
      rw [List.map_map]
      exact List.pairwise_map.mpr (h1.imp fun {x y} h => Int.not_lt.mp (of_decide_eq_false (p := k (backV y) < k (backV x)) h))
    refine ⟨.non, upd H a (.lst (out.map backV)), I.write (e := a) (t' := s.toks) (by rw [ha]; trivial) (.inl rfl) (fun b u hb hu => ?_) ⟨_, he'⟩ ⟨hlen, out, ep, vals_back h3, he'⟩, rfl, q _ hperm hup⟩
    rw [PyProof.Rows.sortedHeap_old hb (Heap.lt_size hu)]; exact hu
/-- a tuple of a key and its value -/
def PrAt (H : Hp) (x : V) (q : Int × V) : Prop := ∃ t, x = .ref t ∧ H t = some (.tup [.int q.1, q.2])
def prKV (kvs : List (Int × V)) : List (L2.Key × V) := kvs.map fun q => (.inl q.1, q.2)
def rSortPK (K : PySem.W.Frag) : List V → Hp → VK → Prop := fun vs H Q => ∃ (p a : Addr) (kvs : List (Int × V)), vs = [.ref p] ∧ H p = some (itemsO p a) ∧ H a = some (.dK (prKV kvs)) ∧ (kvs.map (·.1)).Nodup ∧
  ∀ (l : Addr) (zs : List (Int × V)) (ys : List V) (H' : Hp), H l = none → Same H H' → H' l = some (.lst ys) → Paired (PrAt H') ys zs → zs.Perm kvs → (zs.map (·.1)).Pairwise (· ≤ ·) → Q (.ref l) H'
def prK (H : Hp) : V → Int
  | .ref t => match H t with
    | some (.tup [.int i, _]) => i
    | _ => 0
  | _ => 0
def prV (H : Hp) : V → V
  | .ref t => match H t with
    | some (.tup [_, v]) => v
    | _ => .non
  | _ => .non
theorem prK_of {H : Hp} {x : V} {q : Int × V} (h : PrAt H x q) : prK H x = q.1 ∧ prV H x = q.2 := by
  obtain ⟨t, rfl, e⟩ := h
  constructor
  · show (match H t with | some (.tup [.int i, _]) => i | _ => (0 : Int)) = q.1
    rw [e]
  · show (match H t with | some (.tup [_, v]) => v | _ => V.non) = q.2
    rw [e]
theorem pr_paired {H : Hp} : ∀ {ts : List Addr} {kvs : List (Int × V)}, Paired (fun (t : Addr) (q : L2.Key × V) => H t = some (.tup [kV q.1, q.2])) ts (prKV kvs) → Paired (PrAt H) (ts.map V.ref) kvs
  | _, [], .nil => .nil
  | _, _ :: _, .cons h t => .cons ⟨_, rfl, h⟩ (pr_paired t)
theorem pr_maps {H : Hp} : ∀ {xs : List V} {qs : List (Int × V)}, Paired (PrAt H) xs qs → xs.map (prK H) = qs.map (·.1) ∧ xs.map (fun x => (prK H x, prV H x)) = qs ∧ ∀ x ∈ xs, PrAt H x (prK H x, prV H x)
  | _, _, .nil => ⟨rfl, rfl, fun _ h => nomatch h⟩
  | _, _, .cons (a := x) (b := q) h t => by
    obtain ⟨h1, h2, h3⟩ := pr_maps t
    obtain ⟨e1, e2⟩ := prK_of h
    refine ⟨by rw [List.map_cons, List.map_cons, e1, h1], by rw [List.map_cons, e1, e2, h2], fun y hy => ?_⟩
    rcases List.mem_cons.mp hy with e | hy
    · subst e
      rw [e1, e2]; exact h
    · exact h3 y hy
theorem pr_back {H : Hp} : ∀ {zs : List V}, (∀ z ∈ zs, PrAt H z (prK H z, prV H z)) → Paired (PrAt H) zs (zs.map fun z => (prK H z, prV H z))
  | [], _ => .nil
  | z :: zs, h => .cons (h z List.mem_cons_self) (pr_back fun y hy => h y (List.mem_cons_of_mem _ hy))
theorem inj_nodup {α : Type} {f : α → Int} : ∀ {l : List α}, (l.map f).Nodup → ∀ {a b : α}, a ∈ l → b ∈ l → f a = f b → a = b
  | [], _, _, _, h, _, _ => nomatch h
  | x :: l, hn, a, b, ha, hb, e => by
    rw [List.map_cons, List.nodup_cons] at hn
    by_cases h1 : a = x
    · by_cases h2 : b = x
      · rw [h1, h2]
      · have hb2 := (List.mem_cons.mp hb).resolve_left h2
        exact absurd (List.mem_map.mpr ⟨b, hb2, by rw [← e, h1]⟩) hn.1
    · have ha2 := (List.mem_cons.mp ha).resolve_left h1
      by_cases h2 : b = x
      · exact absurd (List.mem_map.mpr ⟨a, ha2, by rw [e, h2]⟩) hn.1
      · exact inj_nodup hn.2 ha2 ((List.mem_cons.mp hb).resolve_left h2) e
theorem cr_sortPK (hc : X.calm = true) (e : X.K = K := by rfl) : CallR X (.builtin "sorted") (rSortPK K) := by
  subst e
  intro pins s σ H xs us Q I r h
  obtain ⟨p, a, kvs, rfl, hp, ha, hnd, k⟩ := h
  obtain rfl := Vals.ref1 r
  have view : s.heap.IsItemsView p a := (show ObjOk X.prog X.w H s.heap p (itemsO p a) from I.hok p _ hp).1
  obtain ⟨hz, hs0, vs, kv, hdo⟩ := I.hok a _ ha
  have lk : (prKV kvs).length = vs.length := Paired.length kv
  obtain ⟨o, es, ep, ho, hx, hdat, hko, hps, hnd'⟩ := hdo
  have les : es.size = vs.length := by rw [← Array.length_toList]; exact hps.length
  have hh : X.A.handled = none := I.ok.hd hc
  refine DT.sortedI (es := es) (ep := ep) hh view ⟨o, ho, hx, hdat⟩ (by omega) fun h' tk as hk hlt hl hM => ?_
  have hG : PySem.W.KdxG (mixKind X.prog X.w) vs s.heap.objs.size h' as := by
    refine ⟨hM.rise, hM.above, fun j b hj => ?_⟩
    obtain ⟨en, he, hg⟩ := hM.pairs j b hj
    rw [← Array.getElem?_toList] at he
    have hjl : j < vs.length := by
      have := (List.getElem?_eq_some_iff.mp hj).1
      omega
    have hv : vs[j]? = some ((vs[j]).1, (vs[j]).2) := List.getElem?_eq_getElem hjl
    obtain ⟨q1, q2⟩ := hps.get? he hv
    exact ⟨en.key, (vs[j]).1, (vs[j]).2, hv, q1, by rw [hg, q2]⟩
  have hpush : ∀ b o, h'.get? b = some o → (h'.push { cls := .type "list", data := .seq (as.map Value.ref).toArray }).get? b = some o := fun b o e => Heap.get?_push_of_some _ e
  obtain ⟨H', k1, k2, k4, k5, J⟩ := items_laid2 (tk := tk) (S := h'.objs.size) I hz kv (fun b o e => hpush _ _ (hk b o e)) (Heap.get?_push_size _ rfl) (Nat.le_of_lt hlt)
    (fun z => Nat.lt_irrefl _ (hG.there z)) (by omega) ⟨hG.rise, hG.above, fun j a e => by
      obtain ⟨key, q, x, f1, f2, f3⟩ := hG.pairs j a e
      exact ⟨key, q, x, f1, f2, hpush _ _ f3⟩⟩
  have pp := pr_paired k5
  obtain ⟨m1, m2, m3⟩ := pr_maps pp
  have inj : ∀ y ∈ as.map V.ref, ∀ z ∈ as.map V.ref, prK H' y = prK H' z → y = z := fun y hy z hz e => by
    have hn : ((as.map V.ref).map (prK H')).Nodup := by rw [m1]; exact hnd
    exact inj_nodup hn hy hz e
  have st := mt_sortPr (X := { X with A := X.A.in1 }) pins _ σ H' (.ref h'.objs.size) [] (.ref h'.objs.size) [] (fun _ H2 => Q (.ref h'.objs.size) H2) (inv_around J _ rfl rfl) rfl .nil
    ⟨_, _, prK H', rfl, rfl, k4, fun y hy => by
      obtain ⟨t, e1, e2⟩ := m3 y hy
      exact ⟨t, _, e1, e2⟩, inj, fun zs h1 h2 => ?_⟩
  · refine wpAny_mono st (fun u s' x => ?_) fun _ _ e => e
    obtain ⟨v, H2, J2, rv, q2⟩ := x
    exact ⟨.ref h'.objs.size, H2, inv_back J2 rfl rfl, rfl, q2⟩
  · have m4 : ∀ y ∈ zs, PrAt H' y (prK H' y, prV H' y) := fun y hy => m3 y (h1.mem_iff.mp hy)
    have mv : ∀ y ∈ zs, PrAt (upd H' h'.objs.size (.lst zs)) y (prK H' y, prV H' y) := fun y hy => by
      obtain ⟨t, e1, e2⟩ := m4 y hy
      have nt : t ≠ h'.objs.size := fun z => by
        rw [z, k4] at e2
        cases e2
      exact ⟨t, e1, by rw [upd_ne nt]; exact e2⟩
    have pz : ∀ {ws : List V}, (∀ y ∈ ws, PrAt (upd H' h'.objs.size (.lst zs)) y (prK H' y, prV H' y)) → Paired (PrAt (upd H' h'.objs.size (.lst zs))) ws (ws.map fun z => (prK H' z, prV H' z)) := fun {ws} => by
      induction ws with
      | nil => exact fun _ => .nil
      | cons z r ih => exact fun h => .cons (h z List.mem_cons_self) (ih fun y hy => h y (List.mem_cons_of_mem _ hy))
    refine k h'.objs.size (zs.map fun z => (prK H' z, prV H' z)) zs _ k2 (fun b o e => ?_) upd_same (pz mv) ?_ ?_
    · rw [upd_ne (ne_of_none e k2)]
      exact k1 b o e
    · rw [← m2]
      exact h1.map _
    · rw [List.map_map]; exact h2
end
/-! ### for x in reversed(xs) -/
section
variable {K : PySem.W.Frag} {g : TG} {ts : TS} {D : Ends} {σ : L2.St} {H : Hp} {a : Addr} {xs : List V}
def ForV (K : PySem.W.Frag) (g : TG) (ts : TS) (D : Ends) (σ : L2.St) (vs : List V) (H : Hp) : Prop :=
  ∃ (a : Addr) (xs : List V), vs = [.ref a] ∧ SqL K H a xs ∧ ∃ W : Nat → Nat → L2.St → Hp → Prop, (∃ m, W 0 m σ H) ∧ ∀ i m σ H, W i m σ H →
    ((Itv K a xs.length).stop i H ∧ D.nx σ H) ∨ ((Itv K a xs.length).go i H ∧ ∃ N : L2.St → Hp → Prop, (∀ σ' H', N σ' H' → ∃ m', m' < m ∧ W (i + 1) m' σ' H') ∧
      ∀ x H', (Itv K a xs.length).yld i H x H' → J.Turn g ts D N x σ H')
theorem r_forV {ta : TA} (k : ta σ H fun vs H1 => ForV K g ts D σ vs H1) : tFor (iRev K ta) g ts D σ H := k
theorem forV (h : SqL K H a xs) (Pv : Nat → L2.St → Hp → Prop) (h0 : Pv 0 σ H) (hl : ∀ i σ H, i ≤ xs.length → Pv i σ H → SqL K H a xs)
    (hs : ∀ i x σ H, xs[xs.length - 1 - i]? = some x → i < xs.length → Pv i σ H → J.Turn g ts D (Pv (i + 1)) x σ H) (hd : ∀ σ H, Pv xs.length σ H → D.nx σ H) : ForV K g ts D σ [.ref a] H := by
  refine ⟨a, xs, rfl, h, fun i m σ H => m = xs.length - i ∧ i ≤ xs.length ∧ Pv i σ H, ⟨_, rfl, Nat.zero_le _, h0⟩, ?_⟩
  rintro i m σ H ⟨rfl, hi, p⟩
  have q := hl i σ H hi p
  by_cases hlt : i < xs.length
  · have hj : xs.length - 1 - i < xs.length := by omega
    refine .inr ⟨⟨hlt, xs, xs[xs.length - 1 - i], q, List.getElem?_eq_getElem hj⟩, Pv (i + 1), fun σ' H' p' => ⟨xs.length - (i + 1), by omega, rfl, hlt, p'⟩, fun x H' y => ?_⟩
    obtain ⟨rfl, e⟩ := y
    exact hs i x σ _ (e xs q) hlt p
  · have e : i = xs.length := by omega
    subst e
    exact .inl ⟨Nat.le_refl _, hd σ H p⟩
end
end J

set_option Elab.async false
set_option linter.all false
set_option maxRecDepth 100000
set_option maxHeartbeats 4000000
namespace J
open PySem PySem.Spec L2 L2.DX PyProof.Rows
/-! ### sorted(d.items()), that the keys differ is told behind it -/
def rSortPN (K : PySem.W.Frag) : List V → Hp → VK → Prop := fun vs H Q => ∃ (p a : Addr) (kvs : List (Int × V)), vs = [.ref p] ∧ H p = some (itemsO p a) ∧ H a = some (.dK (prKV kvs)) ∧
  ∀ (l : Addr) (zs : List (Int × V)) (ys : List V) (H' : Hp), H l = none → Same H H' → H' l = some (.lst ys) → Paired (PrAt H') ys zs → zs.Perm kvs → (zs.map (·.1)).Pairwise (· ≤ ·) → (kvs.map (·.1)).Nodup → Q (.ref l) H'
theorem kv_keys : ∀ {a : List (L2.Key × V)} {b : List (L2.Key × Value)}, KV a b → a.map (·.1) = b.map (·.1)
  | [], [], .nil => rfl
  | _ :: _, _ :: _, .cons h t => by rw [List.map_cons, List.map_cons, h.1, kv_keys t]
section
variable {X : Cx} {K : PySem.W.Frag}
theorem cr_sortPN (hc : X.calm = true) (e : X.K = K := by rfl) : CallR X (.builtin "sorted") (rSortPN K) := by
  subst e
  intro pins s σ H xs us Q I r h
  obtain ⟨p, a, kvs, rfl, hp, ha, k⟩ := h
  obtain rfl := Vals.ref1 r
  have view : s.heap.IsItemsView p a := (show ObjOk X.prog X.w H s.heap p (itemsO p a) from I.hok p _ hp).1
  obtain ⟨hz, hs0, vs, kv, hdo⟩ := I.hok a _ ha
  have lk : (prKV kvs).length = vs.length := Paired.length kv
  obtain ⟨o, es, ep, ho, hx, hdat, hko, hps, hnd'⟩ := hdo
  have hnd : (kvs.map (·.1)).Nodup := by
    have e : (prKV kvs).map (·.1) = (kvs.map (·.1)).map Sum.inl := by
      unfold prKV
      rw [List.map_map, List.map_map]; rfl
    have hn := hnd'
    rw [← kv_keys kv, e] at hn
    exact (List.pairwise_map.mp hn).imp fun h z => h (congrArg Sum.inl z)
  have les : es.size = vs.length := by rw [← Array.length_toList]; exact hps.length
  have hh : X.A.handled = none := I.ok.hd hc
  refine DT.sortedI (es := es) (ep := ep) hh view ⟨o, ho, hx, hdat⟩ (by omega) fun h' tk as hk hlt hl hM => ?_
  have hG : PySem.W.KdxG (mixKind X.prog X.w) vs s.heap.objs.size h' as := by
    refine ⟨hM.rise, hM.above, fun j b hj => ?_⟩
    obtain ⟨en, he, hg⟩ := hM.pairs j b hj
    rw [← Array.getElem?_toList] at he
    have hjl : j < vs.length := by
      have := (List.getElem?_eq_some_iff.mp hj).1
      omega
    have hv : vs[j]? = some ((vs[j]).1, (vs[j]).2) := List.getElem?_eq_getElem hjl
    obtain ⟨q1, q2⟩ := hps.get? he hv
    exact ⟨en.key, (vs[j]).1, (vs[j]).2, hv, q1, by rw [hg, q2]⟩
  have hpush : ∀ b o, h'.get? b = some o → (h'.push { cls := .type "list", data := .seq (as.map Value.ref).toArray }).get? b = some o := fun b o e => Heap.get?_push_of_some _ e
  obtain ⟨H', k1, k2, k4, k5, J⟩ := items_laid2 (tk := tk) (S := h'.objs.size) I hz kv (fun b o e => hpush _ _ (hk b o e)) (Heap.get?_push_size _ rfl) (Nat.le_of_lt hlt)
    (fun z => Nat.lt_irrefl _ (hG.there z)) (by omega) ⟨hG.rise, hG.above, fun j a e => by
      obtain ⟨key, q, x, f1, f2, f3⟩ := hG.pairs j a e
      exact ⟨key, q, x, f1, f2, hpush _ _ f3⟩⟩
  have pp := pr_paired k5
  obtain ⟨m1, m2, m3⟩ := pr_maps pp
  have inj : ∀ y ∈ as.map V.ref, ∀ z ∈ as.map V.ref, prK H' y = prK H' z → y = z := fun y hy z hz e => by
    have hn : ((as.map V.ref).map (prK H')).Nodup := by rw [m1]; exact hnd
    exact inj_nodup hn hy hz e
  have st := mt_sortPr (X := { X with A := X.A.in1 }) pins _ σ H' (.ref h'.objs.size) [] (.ref h'.objs.size) [] (fun _ H2 => Q (.ref h'.objs.size) H2) (inv_around J _ rfl rfl) rfl .nil
    ⟨_, _, prK H', rfl, rfl, k4, fun y hy => by
      obtain ⟨t, e1, e2⟩ := m3 y hy
      exact ⟨t, _, e1, e2⟩, inj, fun zs h1 h2 => ?_⟩
  · refine wpAny_mono st (fun u s' x => ?_) fun _ _ e => e
    obtain ⟨v, H2, J2, rv, q2⟩ := x
    exact ⟨.ref h'.objs.size, H2, inv_back J2 rfl rfl, rfl, q2⟩
  · have m4 : ∀ y ∈ zs, PrAt H' y (prK H' y, prV H' y) := fun y hy => m3 y (h1.mem_iff.mp hy)
    have mv : ∀ y ∈ zs, PrAt (upd H' h'.objs.size (.lst zs)) y (prK H' y, prV H' y) := fun y hy => by
      obtain ⟨t, e1, e2⟩ := m4 y hy
      have nt : t ≠ h'.objs.size := fun z => by
        rw [z, k4] at e2
        cases e2
      exact ⟨t, e1, by rw [upd_ne nt]; exact e2⟩
    have pz : ∀ {ws : List V}, (∀ y ∈ ws, PrAt (upd H' h'.objs.size (.lst zs)) y (prK H' y, prV H' y)) → Paired (PrAt (upd H' h'.objs.size (.lst zs))) ws (ws.map fun z => (prK H' z, prV H' z)) := fun {ws} => by
      induction ws with
      | nil => exact fun _ => .nil
      | cons z r ih => exact fun h => .cons (h z List.mem_cons_self) (ih fun y hy => h y (List.mem_cons_of_mem _ hy))
    refine k h'.objs.size (zs.map fun z => (prK H' z, prV H' z)) zs _ k2 (fun b o e => ?_) upd_same (pz mv) ?_ ?_ hnd
    · rw [upd_ne (ne_of_none e k2)]
      exact k1 b o e
    · rw [← m2]
      exact h1.map _
    · rw [List.map_map]; exact h2
end
end J

set_option Elab.async false
set_option linter.all false
set_option maxRecDepth 100000
set_option maxHeartbeats 4000000
namespace J
open PySem PySem.Spec L2 L2.DX PyProof.Rows
/-! ### for k in d, the dict locked meanwhile -/
def FrD (D : Ends) (d : Addr) (o : Obj) (u : HO) : Ends := ⟨fun σ' H' => H' d = some (.frz o u) ∧ D.nx σ' (upd H' d u), fun v H' => H' d = some (.frz o u) ∧ D.rt v (upd H' d u), fun σ' H' => H' d = some (.frz o u) ∧ D.bk σ' (upd H' d u), fun σ' H' => H' d = some (.frz o u) ∧ D.ct σ' (upd H' d u)⟩
def OverI (J : It) (g : TG) (ts : TS) (Df : Ends) (σ : L2.St) (H1 : Hp) : Prop := ∃ W : Nat → Nat → L2.St → Hp → Prop, (∃ m, W 0 m σ H1) ∧ ∀ i m σ H, W i m σ H →
  (J.stop i H ∧ Df.nx σ H) ∨ (J.go i H ∧ ∃ N : L2.St → Hp → Prop, (∀ σ' H', N σ' H' → ∃ m', m' < m ∧ W (i + 1) m' σ' H') ∧ ∀ x H', J.yld i H x H' → g x σ H' fun σ2 H2 => ts { Df with nx := N, ct := N, bk := Df.nx } σ2 H2)
def KeysX (g : TG) (ts : TS) (Df : Ends) (σ : L2.St) (x : V) (H1 : Hp) : Prop := ∃ d o, x = .ref d ∧ ((∃ kvs, H1 d = some (.frz o (.dK kvs)) ∧ OverI (Itk d o kvs) g ts Df σ H1) ∨ ∃ kvs, H1 d = some (.frz o (.dT kvs)) ∧ OverI (Itkt d o kvs) g ts Df σ H1)
section
variable {K : PySem.W.Frag} {g : TG} {ts : TS} {D Df : Ends} {σ : L2.St} {H : Hp} {d : Addr} {kvs : List (L2.Key × V)} {td : TE}
theorem r_forK (hd : H d = some (.dK kvs)) (k : ∀ o H0, H0 d = some (.frz o (.dK kvs)) → (∀ b, b ≠ d → H0 b = H b) → td σ H0 fun x H1 => KeysX g ts (FrD D d o (.dK kvs)) σ x H1) : tLock (tFor (iKeys td) g ts) D σ H :=
  ⟨d, .dK kvs, hd, trivial, fun od => k od _ upd_same (fun b n => upd_ne n)⟩
theorem forK {o : Obj} (h : H d = some (.frz o (.dK kvs))) (Pv : Nat → L2.St → Hp → Prop) (h0 : Pv 0 σ H) (hl : ∀ i σ H, i ≤ kvs.length → Pv i σ H → H d = some (.frz o (.dK kvs)))
    (hs : ∀ Df i k v σ H, kvs[i]? = some (k, v) → Pv i σ H → J.Turn g ts Df (Pv (i + 1)) (kV k) σ H) (hd : ∀ σ H, Pv kvs.length σ H → D.nx σ (upd H d (.dK kvs))) : KeysX g ts (FrD D d o (.dK kvs)) σ (.ref d) H := by
  refine ⟨d, o, rfl, .inl ⟨kvs, h, fun i m σ H => m = kvs.length - i ∧ i ≤ kvs.length ∧ Pv i σ H, ⟨_, rfl, Nat.zero_le _, h0⟩, ?_⟩⟩
  rintro i m σ H ⟨rfl, hi, p⟩
  have q := hl i σ H hi p
  by_cases hlt : i < kvs.length
  · refine .inr ⟨⟨q, hlt⟩, Pv (i + 1), fun σ' H' p' => ⟨kvs.length - (i + 1), by omega, rfl, hlt, p'⟩, fun x H' y => ?_⟩
    obtain ⟨rfl, k, v, e, rfl⟩ := y
    exact hs _ i k v σ _ e p
  · have e : i = kvs.length := by omega
    subst e
    exact .inl ⟨⟨q, Nat.le_refl _⟩, q, hd σ H p⟩
/-- the frame about a locked dict -/
theorem but_lock {S : List Addr} {H0 H' : Hp} {o : Obj} (hd : H d = some (.dK kvs)) (h0 : H0 d = some (.frz o (.dK kvs))) (he : ∀ b, b ≠ d → H0 b = H b) (b : But S H0 H') : But S H (upd H' d (.dK kvs)) := by
  refine ⟨fun x ox e n => ?_, fun x ox e i => ?_, fun x e => ?_⟩
  · by_cases hx : x = d
    · subst hx
      rw [upd_same, ← hd]; exact e
    · rw [upd_ne hx]
      exact b.keep x ox (by rw [he x hx]; exact e) n
  · by_cases hx : x = d
    · subst hx
      rw [hd] at e
      cases e
      exact absurd i id
    · rw [upd_ne hx]
      exact b.imm x ox (by rw [he x hx]; exact e) i
  · by_cases hx : x = d
    · subst hx
      rw [upd_same]; exact fun z => nomatch z
    · rw [upd_ne hx]
      exact b.live x (by rw [he x hx]; exact e)
/-- what stands off the locked dict -/
theorem DGet.fz {H0 : Hp} {o : Obj} {k : L2.Key} (h : H0 d = some (.frz o (.dK kvs))) : DGet H0 d (kV k) (valV kvs k) := .inl ⟨kvs, k, .inr ⟨o, h⟩, rfl, rfl⟩
theorem r_dAtF {H0 : Hp} {o : Obj} {k : Int} {v : V} {Q : VK} (h : H0 d = some (.frz o (.dK kvs))) (e : valV kvs (.inl k) = some v) (q : Q v H0) : DAt (.ref d) (.int k) H0 Q := ⟨d, v, rfl, e ▸ DGet.fz (k := .inl k) h, q⟩
end
/-- o.m(), its frag told (for a comprehension's element) -/
theorem pe_bm0A {X : Cx} {K : PySem.W.Frag} {T name id : String} {o : Expr} {apos cpos : Pos} {to : TE} {r : V → List V → Hp → VK → Prop} (e : X.K = K) (pa : PlainAttrs T) (slot : Slot T name id) (hty : typeOf (.builtin id) = pure (.type "method_descriptor")) (hm : MtR X id r) (ho : PE X o to)
    (hbase : attributeBase o name X.env (eval o X.env) = eval o X.env := by rfl) (hline : (apos.endLine == cpos.line) = true := by rfl) : PE X (.Call (.Attribute o name apos) [] [] cpos) (tBM0 K T r to) := by
  subst e
  exact pe_bm0 pa slot hty hm ho hbase hline
end J

set_option Elab.async false
set_option linter.all false
set_option maxRecDepth 100000
set_option maxHeartbeats 4000000
namespace J
open PySem PySem.Spec L2 PyProof.Rows
/-! ### max(d), d with int keys -/
def rMaxDI : List V → Hp → VK → Prop := fun xs H Q => ∃ (a : Addr) (kvs : List (L2.Key × V)) (ks : List Int), xs = [.ref a] ∧ H a = some (.dK kvs) ∧ kvs.map (·.1) = ks.map Sum.inl ∧ 0 < ks.length ∧ ∀ m, m ∈ ks → (∀ y, y ∈ ks → y ≤ m) → Q (.int m) H
theorem cr_maxDI {X : Cx} (hc : X.calm = true) : CallR X (.builtin "max") rMaxDI := by
  intro pins s σ H xs us Q I r q
  obtain ⟨a, kvs, ks, ex, hd, hks, hne, q⟩ := q
  subst ex
  obtain ⟨u, eu, rx⟩ := vals1 r
  subst eu
  cases rx
  obtain ⟨z, lo, vs, rel, dd⟩ := dk_rd I.hok (.inl hd)
  obtain ⟨ep, hat⟩ := dd.dictAt
  have hkeys : vs.map (·.1) = ks.map Sum.inl := rel.keys.symm.trans hks
  have hl : vs.length = ks.length := by
    have e := congrArg List.length hkeys
    rw [List.length_map, List.length_map] at e
    exact e
  have ha : a < s.heap.objs.size := hat.lt_size
  have hP : ∀ (i : Nat) (v : Value), (∃ k x, vs[i]? = some (k, x) ∧ (mixKind X.prog X.w).is k v = true) → ∃ t, v = .int (ks.getD i 0) t := by
    rintro i v ⟨k, x, hx, hk⟩
    have h1 : (vs.map (·.1))[i]? = some k := by rw [List.getElem?_map, hx]; rfl
    rw [hkeys, List.getElem?_map] at h1
    obtain ⟨n, hn, rfl⟩ := Option.map_eq_some_iff.mp h1
    have e3 : ks.getD i 0 = n := by rw [List.getD_eq_getElem?_getD, hn]; rfl
    rw [e3]
    exact relV_key (show keyIs (Sum.inl n) v = true from hk)
  refine call_max_walk ?_
  refine wpAny_pyIter_dict lo hat ?_
  refine ⟨s.heap.objs.size, _, _, vs.length, _, _, fun i j => decide (ks.getD i 0 > ks.getD j 0), rfl, Walks.dictKeys (A := X.A.in1) (knd := mixKind X.prog X.w) (show X.A.in1.handled = none from I.ok.hd hc) s.heap.objs.size a (Nat.ne_of_lt ha) vs ep, ⟨⟨_, Heap.get?_push_size _ rfl, rfl, rfl⟩, hat.push _⟩, fun b hb => ?_, by omega, CmpOf.ints_gt (fun i => ks.getD i 0) hP, fun v h' tk hv hk => ?_⟩
  · show b < (s.heap.push _).objs.size
    rw [size_push']
    rcases List.mem_cons.mp hb with z | z
    · rw [z]
      exact Nat.lt_succ_self _
    · rw [List.mem_singleton.mp z]
      exact Nat.lt_succ_of_lt ha
  · obtain ⟨t, rfl⟩ := hP _ _ hv
    obtain ⟨m1', m2'⟩ := argBest_gt (fun i => ks.getD i 0) (vs.length - 1)
    have m1 : argBest (fun i j => decide (ks.getD i 0 > ks.getD j 0)) (vs.length - 1) ≤ vs.length - 1 := m1'
    have m2 : ∀ j, j ≤ vs.length - 1 → ks.getD j 0 ≤ ks.getD (argBest (fun i j => decide (ks.getD i 0 > ks.getD j 0)) (vs.length - 1)) 0 := m2'
    have hk2 : ∀ b o, s.heap.get? b = some o → h'.get? b = some o := fun b o e => hk b o (fun z => by rw [List.mem_singleton.mp z] at e; exact absurd (Heap.lt_size e) (Nat.lt_irrefl _)) (Heap.get?_push_of_some _ e)
    refine ⟨.int _, H, I.kept (t' := tk) hk2, ⟨t, rfl⟩, q _ (PySem.getD_mem (by omega)) fun y hy => ?_⟩
    obtain ⟨j, hj, e⟩ := List.mem_iff_getElem.mp hy
    have z := m2 j (by omega)
    have e3 : ks.getD j 0 = y := by rw [List.getD_eq_getElem?_getD, List.getElem?_eq_getElem hj, ← e] <;> rfl
    rw [e3] at z
    exact z
end J

set_option Elab.async false
set_option linter.all false
set_option maxRecDepth 100000
set_option maxHeartbeats 4000000
namespace J
open PySem PySem.Spec L2 PyProof.Rows
/-! ### isinstance(e, C), e.f of a caught exception, its class told where it is read -/
def DictAt (H : Hp) (d : Option Addr) : Prop := ∀ dd, d = some dd → ∃ fs, H dd = some (.xd fs)
def rIsX (K : PySem.W.Frag) (cls : Value) (d : Option Addr) (a : Addr) : List V → Hp → VK → Prop := fun xs H Q => ∃ (D : Addr) (c : V) (cv : Value) (b : Bool), cls = .ref D ∧ ExcC K D ∧ xs = [.ref a, c] ∧ DictAt H d ∧ (∀ u, RelV c u → u = cv) ∧ PySem.W.kitOne K (.ref D) cv = some b ∧ Q (.bl b) H
theorem call_isX {X : Cx} {K : PySem.W.Frag} {a : Addr} {cls : Value} {oe : Obj} {d : Option Addr} (hp : (a, oe) ∈ X.pn) (hz : Zc cls d oe) (hf : ∃ vs, oe.data = .fields vs) (eK : X.K = K := by rfl) : CallR X (.builtin "isinstance") (rIsX K cls d a) := by
  subst eK
  intro pins s σ H xs us Q I r h
  obtain ⟨D, c, cv, b, rfl, C, rfl, hd, hcv, e, q⟩ := h
  cases r with
  | cons rx rr =>
    cases rr with
    | cons rt rr =>
      cases rr
      cases rx
      have ec := hcv _ rt
      subst ec
      obtain ⟨hget, _⟩ := I.pin (a, oe) (List.mem_append.mpr (.inl hp))
      obtain ⟨vs, hv⟩ := hf
      have J : ∃ od : Option Obj, PySem.W.InstAt s.heap a oe D od := by
        obtain ⟨oc, odd, oda, osl⟩ := oe
        obtain ⟨h1, h2⟩ := hz
        dsimp only at h1 h2 hv
        subst h1 h2 hv
        cases odd with
        | none => exact ⟨none, hget, rfl, rfl, trivial⟩
        | some dd =>
          obtain ⟨fs, hfs⟩ := hd dd rfl
          have hx : ObjOk X.prog X.w H s.heap dd (.xd fs) := I.hok dd _ hfs
          obtain ⟨mA, hns, hr⟩ := hx
          obtain ⟨od, ho, hl⟩ := lookIn_ns hns
          exact ⟨some od, hget, rfl, rfl, ho⟩
      obtain ⟨od, J⟩ := J
      obtain ⟨cd, hc, _⟩ := PySem.W.any_some C.hd
      exact PySem.W.kia_one (PySem.W.kitx_exc (by rw [hc]; rfl) C.hg C.hk C.hs C.ha C.hn C.ht C.hm) I.kIn J e (fun z => nomatch z) fun tk => ⟨.bl b, H, I.kept (t' := tk) fun _ _ z => z, rfl, q⟩
/-- e.f -/
def tXf2 (K : PySem.W.Frag) (a : Addr) (cls : Value) (d : Option Addr) (f : Str) (te : TE) : TE := fun σ H Q => te σ H fun x H1 => x = .ref a ∧ ∃ (C dd : Addr) (fs : List (Str × V)) (v : V), cls = .ref C ∧ XfC K C ∧ PySem.W.findIn K (.ref C) f = some none ∧ d = some dd ∧ H1 dd = some (.xd fs) ∧ fs.lookup f = some v ∧ Q v H1
theorem pe_xf2 {X : Cx} {K : PySem.W.Frag} {a : Addr} {oe : Obj} {cls : Value} {d : Option Addr} {e : Expr} {te : TE} {pos : Pos} {n : Str} (hp : (a, oe) ∈ X.pn)
    (hz : Zc cls d oe) (hf : ∃ vs, oe.data = .fields vs) (he : PE X e te) (hb : attributeBase e n X.env (eval e X.env) = eval e X.env := by rfl) (eK : X.K = K := by rfl) :
    PE X (.Attribute e n pos) (tXf2 K a cls d n te) := by
  subst eK
  refine ⟨fun pins s σ H Q I h => ?_⟩
  refine attr_of hb (thn (he.run pins s σ H _ I h) fun u s1 hh => ?_)
  obtain ⟨x, H1, I1, rx, ex, C, dd, fs, v, ec, T, hno, ed, ea, l, q⟩ := hh
  subst ex
  obtain rfl : u = Value.ref a := rx
  subst ec
  subst ed
  obtain ⟨ha, _⟩ := I1.pin (a, oe) (List.mem_append_left _ hp)
  obtain ⟨vs, hd⟩ := hf
  have hx : ObjOk X.prog X.w H1 s1.heap dd (.xd fs) := I1.hok dd _ ea
  obtain ⟨mA, hns, hr⟩ := hx
  obtain ⟨od, ho, hl⟩ := lookIn_ns hns
  obtain ⟨u, hu, ru⟩ := RelO.some_of (v := v) (o := mA n) (by rw [← l]; exact hr n)
  have J : PySem.W.InstAt s1.heap a oe C (some od) := ⟨ha, hz.1, by unfold PySem.W.notCls; rw [hd] <;> rfl, by rw [hz.2]; exact ho⟩
  exact HandSPX.exc_get I1.kIn J T.ga T.gg T.exC (PySem.W.findObj_own T.hdC hno rfl (by rw [hl, hu])) (handed_of ru) ⟨v, H1, I1.tok _, ru, q⟩
theorem r_xf2 {K : PySem.W.Frag} {a C : Addr} {d : Addr} {f : Str} {te : TE} {σ : L2.St} {H : Hp} {Q : VK} (k : te σ H fun x H1 => x = .ref a ∧ ∃ (C' dd : Addr) (fs : List (Str × V)) (v : V), (.ref C : Value) = .ref C' ∧ XfC K C' ∧ PySem.W.findIn K (.ref C') f = some none ∧ some d = some dd ∧ H1 dd = some (.xd fs) ∧ fs.lookup f = some v ∧ Q v H1) : tXf2 K a (.ref C) (some d) f te σ H Q := k
theorem r_xf2At {K : PySem.W.Frag} {a C d : Addr} {fs : List (Str × V)} {f : Str} {v : V} {H1 : Hp} {Q : VK} (T : XfC K C) (hn : PySem.W.findIn K (.ref C) f = some none) (h : H1 d = some (.xd fs)) (l : fs.lookup f = some v) (k : Q v H1) :
    V.ref a = .ref a ∧ ∃ (C' dd : Addr) (fs : List (Str × V)) (v : V), (.ref C : Value) = .ref C' ∧ XfC K C' ∧ PySem.W.findIn K (.ref C') f = some none ∧ some d = some dd ∧ H1 dd = some (.xd fs) ∧ fs.lookup f = some v ∧ Q v H1 := ⟨rfl, C, d, fs, v, rfl, T, hn, rfl, h, l, k⟩
theorem r_isXTy {K : PySem.W.Frag} {a D d : Addr} {T : String} {fs : List (Str × V)} {b : Bool} {H : Hp} {Q : VK} (C : ExcC K D) (h : H d = some (.xd fs)) (e : PySem.W.kitOne K (.ref D) (.type T) = some b) (q : Q (.bl b) H) : rIsX K (.ref D) (some d) a [.ref a, .ty T] H Q :=
  ⟨D, .ty T, .type T, b, rfl, C, rfl, fun dd e => by cases e; exact ⟨fs, h⟩, fun u r => r, e, q⟩
theorem r_isXCl {K : PySem.W.Frag} {a D d c : Addr} {fs : List (Str × V)} {b : Bool} {H : Hp} {Q : VK} (C : ExcC K D) (h : H d = some (.xd fs)) (e : PySem.W.kitOne K (.ref D) (.ref c) = some b) (q : Q (.bl b) H) : rIsX K (.ref D) (some d) a [.ref a, .ref c] H Q :=
  ⟨D, .ref c, .ref c, b, rfl, C, rfl, fun dd e => by cases e; exact ⟨fs, h⟩, fun u r => r, e, q⟩
theorem kit_ty1 {K : PySem.W.Frag} {D : Addr} {T : String} {b : Bool} (h : PySem.W.subIn K (.ref D) (.type T) = some b) (hm : PySem.W.kitMeta T = true := by decide +kernel) : PySem.W.kitOne K (.ref D) (.type T) = some b := by
  have e : ((.ref D : Value) == .type T) = false := rfl
  unfold PySem.W.kitOne PySem.W.kitCls
  rw [e, if_neg Bool.false_ne_true]
  dsimp only
  rw [if_pos hm]; exact h
theorem kit_self {K : PySem.W.Frag} {D : Addr} : PySem.W.kitOne K (.ref D) (.ref D) = some true := by
  unfold PySem.W.kitOne
  rw [if_pos (beq_self_eq_true _)]
theorem kit_cl {K : PySem.W.Frag} {D C : Addr} {b : Bool} (hi : PySem.W.isClsIn K C = true) (ht : PySem.W.typeIn K (.ref C) = some (.type "type")) (h : PySem.W.subIn K (.ref D) (.ref C) = some b) (hn : b = true ∨ D ≠ C) : PySem.W.kitOne K (.ref D) (.ref C) = some b := by
  unfold PySem.W.kitOne PySem.W.kitCls
  split
  · rename_i e
    have e2 : D = C := Value.ref.inj (beq_iff_eq.mp e)
    rcases hn with rfl | hn
    · rfl
    · exact absurd e2 hn
  · dsimp only
    have hi' : (PySem.W.clsIn K C).isSome = true := hi
    have ht' : (PySem.W.typeIn K (.ref C) == some (.type "type")) = true := by rw [ht] <;> rfl
    rw [hi', ht', if_pos (show (true && true) = true from rfl)]; exact h
end J

set_option Elab.async false
set_option linter.all false
set_option maxRecDepth 100000
set_option maxHeartbeats 4000000
namespace J
open PySem PySem.Spec PySem.Calls L2 PyProof.Rows Builtin
/-! ### x != y by an own __eq__ -/
section
variable {prog : Program} {w : World} {A : Around} {E : Value → Shared → Prop} {s : Shared} {K : PySem.W.Frag} {x C f : Addr} {ox : Obj} {od : Option Obj} {b tb : Value}
theorem ifBound_S {M : Model} {B : String} {name : Str} {id : String} {args : List Value} {Q : Option Value → Shared → Prop} (X : K.In s.heap) (I : PySem.W.InstAt s.heap x ox C od) (hs : PySem.W.findIn K (.ref C) name = some (some (.builtin id))) (S : Slot B name id)
    (h : wpAny M A (call (.builtin id) (.ref x :: args)) (fun v => Q (some v)) E s) : wpAny M A (callSpecialIfBound? (.ref x) name args) Q E s := by
  simp only [callSpecialIfBound?, bindSpecialIfBound?]
  refine wpAny_holding (wpAny_bind (wpAny_bind (wpAny_bind (I.type.here ((PySem.W.looks_findIn X hs).here ?_)))))
  simp only [S.bind]
  refine wpAny_bind (wpAny_askSetting (wpAny_ite ?_))
  have fin : wpAny M A (call (.builtin id) ([.ref x] ++ args) >>= fun v => pure (some v)) Q E s := wpAny_bind (wpAny_mono h (fun v s' h' => wpAny_pure h') fun _ _ h' => h')
  split
  · exact wpAny_bind (wpAny_pure (wpAny_pure (by exact fin)))
  · exact wpAny_tryCatch (wpAny_bind (wpAny_pure (wpAny_pure (by exact fin))))
theorem objNe_own {Q : Fin → Shared → Prop} (X : K.In s.heap) (I : PySem.W.InstAt s.heap x ox C od) (hs : PySem.W.findIn K (.ref C) "__eq__" = some (some (.ref f))) (hf : PySem.W.isFn K (.ref f) = true) (hu : A.units < cLine)
    (hcall : wpAny (model prog w) A (call (.ref f) [.ref x, b]) (fun v s' => ∃ r, v = .bool r ∧ Q (.done (.ret (.bool (!r)))) s') E s) :
    wpAny (model prog w) A (Builtin.«object.__ne__» ⟨[.ref x, b], []⟩) Q E s := by
  unfold Builtin.«object.__ne__»
  repeat (first
    | with_reducible refine wpAny_cRoomFor hu ?_
    | (refine wpAny_bind (m := callSpecialIfBound? (.ref x) (Str.ofString "__eq__") [b])
        (PySem.W.ifBound_K X I hs hf (wpAny_mono hcall (fun v s' hr => by
          obtain ⟨r, rfl, hq⟩ := hr
          repeat (first | exact hq | exact wpAny_pure hq | exact wpAny_truthy_bool hq | (refine wpAny_bind (m := truthy (.bool _)) (wpAny_truthy_bool ?_)) | wp_step)) fun _ _ e => e)))
    | wp_step)
theorem tryNe_own {Q : Option Value → Shared → Prop} (X : K.In s.heap) (I : PySem.W.InstAt s.heap x ox C od) (hs : PySem.W.findIn K (.ref C) "__eq__" = some (some (.ref f))) (hf : PySem.W.isFn K (.ref f) = true)
    (hn : PySem.W.findIn K (.ref C) "__ne__" = some (some (.builtin "object.__ne__"))) (ho : PySem.W.subIn K (.ref C) (.type "object") = some true) (hu : A.units + 1 < cLine)
    (hcall : wpAny (model prog w) A.in1 (call (.ref f) [.ref x, b]) (fun v s' => ∃ r, v = .bool r ∧ Q (some (.bool (!r))) s') E s) :
    wpAny (model prog w) A (tryCompare (.ref x) "__ne__" b) Q E s := by
  unfold tryCompare
  refine wpAny_bind (ifBound_S X I hn F.cmp_object.ne (wpAny_call (codeAny_call_builtin F.cmp_object.ne.plain F.cmpEntry_ne
    (PySem.W.check_slot F.cmpKind_ne F.cmpSplit_ne (I.type.andThen (PySem.W.looks_subIn X ho)) (F.cmpArgs_ne _ _) (objNe_own (A := A.in1) X I hs hf hu (wpAny_mono hcall (fun v s' hv => ?_) fun _ _ e => e))))))
  obtain ⟨r, rfl, hq⟩ := hv
  first | exact wpAny_pure hq | exact ⟨r, rfl, wpAny_pure hq⟩ | exact ⟨r, rfl, wpAny_pure (wpAny_pure hq)⟩ | exact ⟨r, rfl, hq⟩
theorem ne_own {Q : Value → Shared → Prop} (X : K.In s.heap) (I : PySem.W.InstAt s.heap x ox C od) (hb : PySem.W.Looks (model prog w) s.heap (typeOf b) tb) (hnf : PySem.W.notFirst K C tb = true) (hs : PySem.W.findIn K (.ref C) "__eq__" = some (some (.ref f))) (hf : PySem.W.isFn K (.ref f) = true)
    (hn : PySem.W.findIn K (.ref C) "__ne__" = some (some (.builtin "object.__ne__"))) (ho : PySem.W.subIn K (.ref C) (.type "object") = some true) (hu : A.units + 1 < cLine)
    (hcall : wpAny (model prog w) A.in1 (call (.ref f) [.ref x, b]) (fun v s' => ∃ r, v = .bool r ∧ Q (.bool (!r)) s') E s) : wpAny (model prog w) A (richCompare .NotEq (.ref x) b) Q E s := by
  have one : wpAny (model prog w) A (tryCompare (.ref x) (cmpInfo .NotEq).2.1 b) (fun r s' => ∃ v, r = some v ∧ Q v s') E s :=
    tryNe_own X I hs hf hn ho hu (wpAny_mono hcall (fun v s' ⟨r, e, q⟩ => ⟨r, e, _, rfl, q⟩) fun _ _ e => e)
  unfold richCompare
  simp only [oneThing_ref]
  refine wpAny_holding (wpAny_bind (wpAny_cRoomFor (Nat.lt_of_succ_lt hu) ?_))
  refine wpAny_bind (I.type.here (wpAny_bind (hb.here ?_)))
  split
  · rename_i q
    have e : PySem.W.subIn K tb (.ref C) = some false := by
      rcases Bool.or_eq_true_iff.mp hnf with e | e
      · rw [beq_iff_eq.mp e] at q; simp at q
      · exact beq_iff_eq.mp e
    refine wpAny_bind ((PySem.W.looks_subIn X e).here ?_)
    simp only [Bool.false_eq_true, if_false]
    refine wpAny_bind (wpAny_mono one (fun r s' z => ?_) fun _ _ e => e)
    obtain ⟨v, rfl, hq⟩ := z
    exact wpAny_pure hq
  · refine wpAny_bind (wpAny_pure ?_)
    simp only [Bool.false_eq_true, if_false]
    refine wpAny_bind (wpAny_mono one (fun r s' z => ?_) fun _ _ e => e)
    obtain ⟨v, rfl, hq⟩ := z
    exact wpAny_pure hq
end
/-- a class with an own __eq__, without an own __ne__ -/
structure OwnEq (K : PySem.W.Frag) (C f : Addr) : Prop where
  eq : PySem.W.findIn K (.ref C) "__eq__" = some (some (.ref f))
  fn : PySem.W.isFn K (.ref f) = true
  ne : PySem.W.findIn K (.ref C) "__ne__" = some (some (.builtin "object.__ne__"))
  ob : PySem.W.subIn K (.ref C) (.type "object") = some true
structure CEq (P : Program) (w : World) (K : PySem.W.Frag) (mg : Str → Option Value) (base : Heap) (k : Nat) (C : Addr) (sp : Sp) : Prop where
  ex : ∃ (f : Addr) (fd : FuncData) (ps : List Str), FnOk P w K mg base CX0 k f fd ps sp ∧ Binds K fd ps [] ∧ OwnEq K C f
def rNeO (C : Addr) (sp : Sp) : R2 := fun x y H Q => ∃ a b dx dy fs gs, x = .ref a ∧ y = .ref b ∧ H a = some (.ins C dx fs) ∧ H b = some (.ins C dy gs) ∧ sp [.ref a, .ref b] H (fun v H' => ∃ r, v = .bl r ∧ Q (.bl (!r)) H') (fun _ _ _ => False)
theorem op_neO {X : Cx} {C : Addr} {sp : Sp} {k j : Nat} (c : CEq X.prog X.w X.K X.mg X.base k C sp) (hr : Room j X.A) (hk : k + 1 ≤ j) : OpR X (compareOp .NotEq) (rNeO C sp) := by
  obtain ⟨f, fd, ps, F, hb, O⟩ := c.ex
  intro pins s σ H x y v u Q I rx ry hq
  obtain ⟨a, b, dx, dy, fs, gs, rfl, rfl, ha, hb', q⟩ := hq
  cases rx
  cases ry
  obtain ⟨mA, J, _⟩ := ins_get I.hok ha
  obtain ⟨mB, J', _⟩ := ins_get I.hok hb'
  obtain ⟨od, J, _⟩ := J.look
  obtain ⟨od', J', _⟩ := J'.look
  have hr1 : Room k X.A.in1 := (hr.mono hk).in1
  show wpAny (model X.prog X.w) X.A (richCompare .NotEq (.ref a) (.ref b)) (EP X pins σ Q) X.xe s
  refine ne_own (tb := .ref C) I.kIn J J'.type (by simp [PySem.W.notFirst]) O.eq O.fn O.ne O.ob (by have := hr.un; omega) ?_
  have e0 : Env0 X.prog X.w X.K X.mg X.base X.A.in1 X.stack s H := by
    have e := I.env0
    exact ⟨e.frames, e.mod, e.bs, e.bsz, e.funs, e.frf, e.hok, e.bare⟩
  have hl := F.len _ _ _ _ q
  have r2 : Vals [V.ref a, V.ref b] [Value.ref a, Value.ref b] := .cons rfl (.cons rfl .nil)
  refine wpAny_call (codeAny_mono (F.run X.A.in1 X.stack s H ⟨[.ref a, .ref b], []⟩ [.ref a, .ref b] [.ref a, .ref b] _ _ hr1 e0 (by
    have := hb s [.ref a, .ref b] I.kIn (by simpa using hl)
    simpa using this) r2 q) fun r s' hq => ?_)
  cases r with
  | error e => exact pass00 (X := X) σ pins H s e s' I hq
  | ok fl =>
    cases fl with
    | ret w =>
      obtain ⟨z, H', I', rz, b', ez, q'⟩ := I.after hq
      subst ez
      cases rz
      exact ⟨b', rfl, .bl (!b'), H', I', rfl, q'⟩
    | next => exact False.elim hq
    | brk => exact False.elim hq
    | cont => exact False.elim hq
theorem r_neO {C a b dx dy : Addr} {fs gs : List (Str × V)} {sp : Sp} {H : Hp} {Q : VK} (ha : H a = some (.ins C dx fs)) (hb : H b = some (.ins C dy gs)) (q : sp [.ref a, .ref b] H (fun v H' => ∃ r, v = .bl r ∧ Q (.bl (!r)) H') (fun _ _ _ => False)) : rNeO C sp (.ref a) (.ref b) H Q := ⟨a, b, dx, dy, fs, gs, rfl, rfl, ha, hb, q⟩
end J

set_option Elab.async false
set_option linter.all false
set_option maxRecDepth 100000
set_option maxHeartbeats 4000000
namespace J
open PySem L2 PyProof.Rows
/-! ### C(e, .., k = v) -/
structure MakN (P : Program) (w : World) (K : PySem.W.Frag) (mg : Str → Option Value) (base : Heap) (k : Nat) (x : Str) (C : Addr) (n : Nat) (ks : List Str) (sp : Sp) : Prop where
  ex : ∃ f fd ps g gV, Mk K C f ∧ FnOk P w K mg base CX0 k f fd ps sp ∧ mg x = some (.ref C) ∧ KBn K fd ps (n + 1) ks g gV ∧ gV = fun vs zs => vs ++ zs
section
variable {X : Cx} {k j n : Nat} {C : Addr} {ks : List Str} {sp : Sp} {x : Str} {p pos : Pos} {e : Expr} {es : List Expr} {kws : List Keyword} {t tk : TA}
theorem pe_mkN (c : MakN X.prog X.w X.K X.mg X.base k x C n ks sp) (hr : Room j X.A) (hk : k + 1 ≤ j) (ha : PA X (e :: es) t) (hkw : PK X kws tk) (hg : Gl X x := by rfl)
    (hall : (backToKw pos (keywordEach kws X.env)).all (·.1.isSome) = true := by rfl) (hks : (backToKw pos (keywordEach kws X.env)).filterMap (·.1) = ks := by rfl) (hdb : (x == ("__debug__" : Str)) = false := by decide)
    (he : starEach (e :: es) X.env = (false, eval e X.env) :: starEach es X.env := by rfl) (hpl : ((backTo pos (starEach (e :: es) X.env)).any (·.1) || (backToKw pos (keywordEach kws X.env)).any (·.1.isNone)) = false := by rfl) :
    PE X (.Call (.Name x p) (e :: es) kws pos) (tMakeK C n ks.length sp (fun vs zs => vs ++ zs) E0 t tk) := by
  obtain ⟨f, fd, ps, g, gV, M, F, hm, hb, eg⟩ := c.ex
  have h := pe_makeK (p := p) M F (hr.mono hk) hg hm hb pass0 ha hkw hall hks hdb he hpl
  rw [eg] at h
  exact h
end
def MkAtN (C : Addr) (n m : Nat) (sp : Sp) (vs zs : List V) (H : Hp) (Q : VK) : Prop := vs.length = n ∧ zs.length = m ∧ ∀ x dx, H x = none → H dx = none → dx ≠ x → sp (.ref x :: vs ++ zs) (upd (upd H dx (.own x)) x (.ins C dx [])) (fun v H3 => v = .non ∧ Q (.ref x) H3) E0
theorem r_mkN {C : Addr} {n m : Nat} {sp : Sp} {t tk : TA} {σ : L2.St} {H : Hp} {Q : VK} (k : t σ H fun vs H1 => tk σ H1 fun zs H2 => MkAtN C n m sp vs zs H2 Q) : tMakeK C n m sp (fun vs zs => vs ++ zs) E0 t tk σ H Q := k
theorem r_mkNAt {C : Addr} {n m : Nat} {sp : Sp} {vs zs : List V} {H : Hp} {Q : VK} (h1 : vs.length = n) (h2 : zs.length = m) (k : ∀ x dx H', H x = none → Same H H' → H' x = some (.ins C dx []) → sp (.ref x :: (vs ++ zs)) H' (fun v H2 => v = .non ∧ Q (.ref x) H2) E0) : MkAtN C n m sp vs zs H Q :=
  ⟨h1, h2, fun x dx hx hd hn => k x dx _ hx (fun b o e => by
    rw [upd_ne (ne_of_none e hx), upd_ne (ne_of_none e hd)]; exact e) upd_same⟩
/-! ### a tuple of texts in the module -/
def strVals (ks : List Tok) (ss : List Str) : List Value := (ss.zip ks).map fun q => .str q.1 q.2
theorem sqT_mod {K : PySem.W.Frag} {H : Hp} {a : Addr} {od : Option Addr} {n : Nat} {sl : Array (Option Value)} {us : List Value} {ss : List Str} (lk : K.lookup a = some ⟨.type "tuple", od, .seq us.toArray n, sl⟩) (hl : us.length ≤ 1000) (r : Vals (ss.map V.str) us) : SqT K H a (ss.map V.str) :=
  .inr ⟨_, us.toArray, n, lk, rfl, rfl, by rw [List.size_toArray]; exact sz (Nat.le_trans hl (by decide)), by simpa using r⟩
theorem dpAll_strs {K : PySem.W.Frag} {H : Hp} : ∀ ss : List Str, DpAll K H (ss.map V.str) (ss.map PyData.str)
  | [] => .nil
  | s :: ss => .cons (.str s) (dpAll_strs ss)
theorem layAll_strs : ∀ ss : List Str, (∀ s ∈ ss, PyData.strOk s = true) → PyData.canLayAll0 (ss.map PyData.str) = true ∧ PyData.depthAll (ss.map PyData.str) = 0
  | [], _ => ⟨rfl, rfl⟩
  | s :: ss, h => by
    obtain ⟨h1, h2⟩ := layAll_strs ss fun x hx => h x (List.mem_cons_of_mem _ hx)
    refine ⟨?_, ?_⟩
    · show (PyData.strOk s && PyData.canLayAll0 (ss.map PyData.str)) = true
      rw [h s List.mem_cons_self, h1]; rfl
    · show max 0 (PyData.depthAll (ss.map PyData.str)) = 0
      rw [h2]; rfl
theorem shaped_strs {ss : List Str} (h : ∀ s ∈ ss, PyData.strOk s = true) : SeqAt.shaped (.tuple (ss.map PyData.str)) = true := by
  obtain ⟨h1, h2⟩ := layAll_strs ss h
  unfold SeqAt.shaped
  have e1 : (PyData.tuple (ss.map PyData.str)).canLay0 = true := h1
  have e2 : (PyData.tuple (ss.map PyData.str)).depth ≤ 60 := by
    show PyData.depthAll (ss.map PyData.str) + 1 ≤ 60
    omega
  rw [e1, decide_eq_true (by omega)]; rfl
theorem any_strs {ss : List Str} {s : Str} : ((ss.map PyData.str).any fun z => PyData.eqv z (.str s)) = decide (s ∈ ss) := by
  rw [Bool.eq_iff_iff, List.any_eq_true, decide_eq_true_iff]
  constructor
  · rintro ⟨z, hz, e⟩
    obtain ⟨y, hy, rfl⟩ := List.mem_map.mp hz
    have : y = s := by simpa [PyData.eqv] using e
    rw [← this]; exact hy
  · intro h
    exact ⟨.str s, List.mem_map.mpr ⟨s, h, rfl⟩, by simp [PyData.eqv]⟩
/-- s not in a tuple of texts -/
theorem r_niStrs {K : PySem.W.Frag} {H : Hp} {Q : VK} {a : Addr} {ss : List Str} {s : Str} (h : SqT K H a (ss.map V.str)) (hs : PyData.strOk s = true) (hl : ∀ s ∈ ss, PyData.strOk s = true) (q : Q (.bl (!decide (s ∈ ss))) H) : rNiA K (.str s) (.ref a) H Q := by
  refine .inr (.inr ⟨.str s, ss.map .str, .str s, .tup h (dpAll_strs ss), ?_, shaped_strs hl, ?_⟩)
  · unfold SeqAt.shaped
    have e1 : (PyData.str s).canLay0 = true := hs
    rw [e1]; rfl
  · rw [any_strs]; exact q
end J

set_option Elab.async false
set_option linter.all false
set_option maxRecDepth 100000
set_option maxHeartbeats 4000000
namespace J
open PySem PySem.Spec L2 PyProof.Rows L2H
/-! ### defs called while an exception is handled: the exception p stands in the state -/
abbrev SpP := Addr × Obj → Sp
structure FnP (P : Program) (w : World) (K : PySem.W.Frag) (mg : Str → Option Value) (base : Heap) (CX : CXT) (k : Nat) (f : Addr) (fd : FuncData) (ps : List Str) (sp : SpP) : Prop where
  len : ∀ p vs H Q E, sp p vs H Q E → vs.length = ps.length
  run : ∀ (A : Around) (outer : List Env) (s : Shared) (H : Hp) (args : Args) (us : List Value) (vs : List V) (Q : VK) (E : XK) (p : Addr × Obj), RoomH k A → PinOk outer H s p → Env0 P w K mg base A outer s H → BindsTo s fd args (ps.zip us) → Vals vs us → sp p vs H Q E →
    codeAny (model P w) A (.call (.ref f) args) (L2.CR CX outer P w H s Q E) s
theorem fnP_of {CX : CXT} {P : Program} {w : World} {K : PySem.W.Frag} {mg : Str → Option Value} {base : Heap} {k : Nat} {f : Addr} {name qual : Str} {params : Arguments} {body : List Stmt} {scope : Scope} {dV kV doc pm cdv ct oc : Value} {an od : Option Addr}
    {osl : Array (Option Value)} {N ps : List Str} {sp : SpP} (lk : K.lookup f = some ⟨oc, od, .func (PySem.W.fnOf name qual params body scope dV kV doc pm an cdv ct), osl⟩) (hcd : PySem.W.codeIn K cdv qual = true) (S : FnScope N ps scope)
    (len : ∀ p vs H Q E, sp p vs H Q E → vs.length = ps.length)
    (hbody : ∀ (A : Around) (outer : List Env) (s : Shared) (H : Hp) (vs : List V) (Q : VK) (E : XK) (p : Addr × Obj), RoomH k (A.deeper (envOfC qual scope s.heap.objs.size f cdv)) → sp p vs H Q E →
      ∃ t, PSs (cxH CX P w K mg base N qual scope f cdv A outer s H E p) body t ∧ t { nx := fun _ H' => Q .non H', rt := Q } (L2.start N vs) H) :
    FnP P w K mg base CX (k + 1) f (PySem.W.fnOf name qual params body scope dV kV doc pm an cdv ct) ps sp := by
  refine ⟨len, fun A outer s H args us vs Q E p hr hpin e0 hb r hsp => ?_⟩
  have hl := len _ _ _ _ _ hsp
  have KX : K.In s.heap := e0.mod.kin.keeps fun b o e => (e0.bs b o e).1
  have lim : s.heap.NoLimit := e0.mod.nolimit.keeps fun b o e => (e0.bs b o e).1
  have hkind : ∀ y ∈ ps.zip us, scope.names.lookup y.1 = some .local ∨ (scope.names.lookup y.1 = some .cell ∧ ((cellsFrom (s.heap.objs.size + 1) scope.names []).lookup y.1).isSome = true) := fun ⟨n, v⟩ hy => by
    rcases S.par n (List.of_mem_zip hy).1 with q | q
    · exact .inl q
    · exact .inr ⟨q, PySem.W.cellsFrom_some _ _ _ (.inl q)⟩
  refine codeAny_call_function hr.depth (KX _ _ lk) rfl S.co S.gen rfl (PySem.W.codeRec_of KX hcd) (hb _ _ _ _ ?_)
  refine wpAny_newFunctionEnv_cells S.kind hkind fun env he s1 x => ?_
  subst he
  refine ⟨lim.keeps x.toInCall.keep, codeAny_func ?_⟩
  obtain ⟨t, ht, hq⟩ := hbody A outer s H vs Q E p (hr.deeper _) hsp
  have I : Inv (cxH CX P w K mg base N qual scope f cdv A outer s H E p) [] (L2.start N vs) H s1 := inv_startH S hpin e0 hl r x
  refine wpAny_mono (ht.run [] s1 (L2.start N vs) H _ I hq) (fun fl s' hs => ?_) fun e s' hs => hs
  match fl, hs with
  | .ret u, ⟨v, σ', H', J, rv, q⟩ => exact ⟨v, H', J.os, J.bare, J.base, J.hok, rv, q⟩
  | .next, ⟨σ', H', J, q⟩ => exact ⟨.non, H', J.os, J.bare, J.base, J.hok, rfl, q⟩
  | .brk, ⟨_, _, _, q⟩ => exact q.elim
  | .cont, ⟨_, _, _, q⟩ => exact q.elim
section
variable {P : Program} {w : World} {K : PySem.W.Frag} {mg : Str → Option Value} {base : Heap}
theorem okP {x qual : Str} {st : Stmt} {f : Addr} {fd : FuncData} {N ps : List Str} {k : Nat} {sp : SpP} (F : Fun K x qual st f fd) (S : FnScope N ps (defScope st)) (len : ∀ p vs H Q E, sp p vs H Q E → vs.length = ps.length)
    (hbody : ∀ (cdv : Value) (A : Around) (outer : List Env) (s : Shared) (H : Hp) (vs : List V) (Q : VK) (E : XK) (p : Addr × Obj), RoomH k (A.deeper (envOfC qual (defScope st) s.heap.objs.size f cdv)) → sp p vs H Q E →
      ∃ t, PSs (cxH CX0 P w K mg base N qual (defScope st) f cdv A outer s H E p).nox (defBody st) t ∧ t { nx := fun _ H' => Q .non H', rt := Q } (L2.start N vs) H) : FnP P w K mg base CX0 (k + 1) f fd ps sp := by
  obtain ⟨oc, od, kV, doc, pm, an, cdv, ct, osl, rfl, lk, hcd⟩ := F.ex
  refine fnP_of lk hcd S len fun A outer s H vs Q E p hr hsp => ?_
  obtain ⟨t, h, q⟩ := hbody cdv A outer s H vs Q E p hr hsp
  exact ⟨t, h.nox, q⟩
end
structure ClP (P : Program) (w : World) (K : PySem.W.Frag) (mg : Str → Option Value) (base : Heap) (CX : CXT) (k : Nat) (x : Str) (sp : SpP) : Prop where
  ex : ∃ f fd ps, FnP P w K mg base CX k f fd ps sp ∧ mg x = some (.ref f) ∧ PySem.W.keepIn K (.ref f) = true ∧ Binds K fd ps []
section
variable {X : Cx} {CX : CXT} {k j : Nat} {sp : SpP} {E : L2.St → XK} {x : Str} {q pos : Pos} {e : Expr} {es : List Expr} {t : TA} {p : Addr × Obj}
theorem pe_clP (c : ClP X.prog X.w X.K X.mg X.base CX k x sp) (hp : p ∈ X.pn) (hr : RoomH j X.A) (hk : k ≤ j) (hx : ∀ σ, PassesAt CX X σ (E σ)) (ha : PA X (e :: es) t) (hg : Gl X x := by rfl)
    (hdb : (x == ("__debug__" : Str)) = false := by decide) (he : starEach (e :: es) X.env = (false, eval e X.env) :: starEach es X.env := by rfl) (hpl : (backTo pos (starEach es X.env)).any (·.1) = false := by rfl) :
    PE X (.Call (.Name x q) (e :: es) [] pos) (tCallS (sp p) E t) := by
  obtain ⟨f, fd, ps, F, hm, kp, hb⟩ := c.ex
  refine ⟨fun pins s σ H Q I h => ?_⟩
  refine wpAny_Call_Name_kw (ld_glob I hg hm ?_ hdb)
  refine PySem.W.callWith_K (h₀ := X.base) I.ok.mod.kin kp (thn (ha.run pos pins s σ H _ I h) fun us s1 ⟨vs, H1, I1, r, q⟩ => ⟨I1.kIn, ?_⟩) he hpl
  have hl : us.length = ps.length := by rw [← r.length]; exact F.len _ _ _ _ _ q
  have b := hb s1 us I1.kIn (by rw [List.append_nil]; exact hl)
  rw [List.append_nil] at b
  have P1 := I1.pin p (List.mem_append_left _ hp)
  have hpin : PinOk X.stack H1 s1 p := ⟨P1.1, P1.2.1, fun hm => (List.mem_cons.mp (I1.stkSub p.1 hm)).elim P1.2.2.1 P1.2.2.2.1, P1.2.2.2.2⟩
  refine wpAny_call (codeAny_mono (F.run X.A X.stack s1 H1 ⟨us, []⟩ us vs Q (E σ) p (hr.mono hk) hpin I1.env0 b r q) fun r s' hq => ?_)
  cases r with
  | error e => exact hx σ pins H1 s1 e s' I1 hq
  | ok fl =>
    cases fl with
    | ret u => exact I1.after hq
    | next => exact False.elim hq
    | brk => exact False.elim hq
    | cont => exact False.elim hq
end
end J
namespace J
open PySem PySem.Spec L2 PyProof.Rows
/-! ### xs.count(True) of truth values -/
def eqb (b : Bool) (v : Value) : Bool := match v with
  | .bool c => c == b
  | _ => false
theorem vals_bools : ∀ {bs : List Bool} {us : List Value}, Vals (bs.map V.bl) us → us = bs.map Value.bool
  | [], _, .nil => rfl
  | b :: bs, _, .cons h t => by
    rw [vals_bools t, List.map_cons]
    cases h
    rfl
def rCntB (K : PySem.W.Frag) : V → List V → Hp → VK → Prop := fun x xs H Q => ∃ (p : Addr) (bs : List Bool) (b : Bool), x = .ref p ∧ xs = [.bl b] ∧ SqL K H p (bs.map V.bl) ∧ Q (.int (bs.count b : Nat)) H
theorem mt_lcountB {X : Cx} {K : PySem.W.Frag} (eK : X.K = K := by rfl) : MtR X "list.count" (rCntB K) := by
  subst eK
  intro pins s σ H x xs v us Q I rx rxs h
  obtain ⟨p, bs, b, rfl, rfl, hs, q⟩ := h
  cases rx
  obtain ⟨u, rfl, ru⟩ := rxs.one
  cases ru
  obtain ⟨its, rv, ⟨⟨cls, dd, data, sl⟩, n, ho, hc, hdn, hd⟩, hlen⟩ := I.list hs
  simp only at hc hd
  subst hc hd
  have hi := vals_bools rv
  have he : ∀ y ∈ its.toArray.toList, ∃ c, y = .bool c := fun y hy => by
    have hy2 : y ∈ bs.map Value.bool := by rw [← hi]; exact hy
    obtain ⟨c, _, e⟩ := List.mem_map.mp hy2
    exact ⟨c, e.symm⟩
  refine call_meets PySem.F.slot_list_count ⟨_, ho, rfl⟩ PySem.F.entry_list_count (PySem.F.args_list_count_2 _ _)
    (SeqAt.list_countAt p its.toArray n dd sl (.bool b) (eqb b)) ⟨ho, fun y hy => ?_, ?_⟩
  · obtain ⟨c, rfl⟩ := he y (by simpa using hy)
    exact SeqAt.EqAt.bool_bool c b
  · have ec : its.toArray.toList.countP (eqb b) = bs.count b := by
      rw [hi]
      show (bs.map Value.bool).countP (eqb b) = _
      rw [List.countP_map]
      rfl
    refine ⟨.int (bs.count b : Nat), H, I.tok _, ⟨s.toks, ?_⟩, q⟩
    show Value.int ((its.toArray.toList.countP (eqb b) : Nat) : Int) s.toks = Value.int ((bs.count b : Nat) : Int) s.toks
    rw [ec]
end J

set_option Elab.async false
set_option linter.all false
set_option maxRecDepth 100000
set_option maxHeartbeats 4000000
namespace J
open PySem PySem.Spec L2 PyProof.Rows
/-! ### odd values: data, or a dict of ints -/
def dicD (m : List (Int × Int)) : PyData := .dict (m.map fun q => (.int q.1, .int q.2))
inductive OdV (K : PySem.W.Frag) (S : List Addr) (H : Hp) : V → PyData → Prop
  | dat {v : V} {d : PyData} (h : Dn K S H v d) : OdV K S H v d
  | dic {a : Addr} {m : List (Int × Int)} (h : H a = some (.dK (intKV m))) (n : a ∉ S) : OdV K S H (.ref a) (dicD m)
section
variable {K : PySem.W.Frag} {S T : List Addr} {H H' : Hp} {v : V} {d : PyData}
theorem OdV.but (b : But T H H') (h : OdV K S H v d) (hs : ∀ s ∈ T, s ∈ S) : OdV K S H' v d := by
  cases h with
  | dat h => exact .dat (h.but b hs)
  | dic h n => exact .dic (b.at h fun z => n (hs _ z)) n
theorem OdV.same (b : Same H H') (h : OdV K S H v d) : OdV K S H' v d := h.but (But.of_same (S := []) b) (by simp)
theorem OdV.sub (h : OdV K S H v d) (hs : ∀ s ∈ T, s ∈ S) : OdV K T H v d := by
  cases h with
  | dat h => exact .dat (h.sub hs)
  | dic h n => exact .dic h fun z => n (hs _ z)
theorem OdV.tyx (h : OdV K S H v d) : TyX K H v (.type (tyD d)) := by
  cases h with
  | dat h => exact tyx_of h
  | dic h n => exact .base (.dK h)
theorem OdV.int_inv {i : Int} (h : OdV K S H v (.int i)) : v = .int i := by
  generalize e : PyData.int i = d at h
  cases h with
  | dat h => subst e; exact h.int_inv
  | dic h n => cases e
theorem od_isi {T : String} {b : Bool} {Q : VK} (h : OdV K S H v d) (e : kitB (tyD d) T = some b) (k : Q (.bl b) H) : rIsi K [v, .ty T] H Q :=
  ⟨v, _, _, _, b, rfl, .ty T, h.tyx, kit_ty e, k⟩
theorem od_isInt {Q : VK} (h : OdV K S H v d) (k : Q (.bl (isIntD d)) H) : rIsi K [v, .ty "int"] H Q := od_isi h (kit_int d) k
theorem od_isBool {Q : VK} (h : OdV K S H v d) (k : Q (.bl (isBoolD d)) H) : rIsi K [v, .ty "bool"] H Q := od_isi h (kit_bool d) k
theorem od_isStr {Q : VK} (h : OdV K S H v d) (k : Q (.bl (isStrD d)) H) : rIsi K [v, .ty "str"] H Q := od_isi h (kit_str d) k
theorem od_isTup {Q : VK} (h : OdV K S H v d) (k : Q (.bl (isTupD d)) H) : rIsi K [v, .ty "tuple"] H Q := od_isi h (kit_tup d) k
theorem od_isList {Q : VK} (h : OdV K S H v d) (k : Q (.bl (isListD d)) H) : rIsi K [v, .ty "list"] H Q := od_isi h (kit_list d) k
end
/-! ### repr -/
theorem reads_pairs {P : Program} {w : World} {h : Heap} : ∀ {m : List (Int × Int)} {vs : List (L2.Key × Value)} {es : List DictEntry}, Pairs (mixKind P w) es vs → KV (intKV m) vs →
    ReadsAll h (es.map (·.key)) ((m.map fun q => (PyData.int q.1, PyData.int q.2)).map (·.1)) [] ∧ ReadsAll h (es.map (·.val)) ((m.map fun q => (PyData.int q.1, PyData.int q.2)).map (·.2)) []
  | [], _, es, hp, .nil => by
    cases hp
    exact ⟨.nil, .nil⟩
  | q :: m, kv :: vs, es, hp, .cons hq t => by
    cases hp with
    | @cons e _ es _ h1 h2 h3 =>
      obtain ⟨hq1, hq2⟩ := hq
      obtain ⟨ih1, ih2⟩ := reads_pairs h3 t
      dsimp only at hq1 hq2
      rw [← hq1] at h1
      obtain ⟨tk, ek⟩ := relV_key (show keyIs (Sum.inl q.1) e.key = true from h1)
      obtain ⟨tv, ev⟩ := (show ∃ t, kv.2 = Value.int q.2 t from hq2)
      refine ⟨?_, ?_⟩
      · have := ReadsAll.cons (h := h) (Reads.int q.1 tk) ih1
        rw [List.map_cons, ek]
        exact this
      · have := ReadsAll.cons (h := h) (Reads.int q.2 tv) ih2
        rw [List.map_cons, h2, ev]
        exact this
def rReprOd (K : PySem.W.Frag) : List V → Hp → VK → Prop := fun xs H Q => ∃ (x : V) (S : List Addr) (d : PyData), xs = [x] ∧ OdV K S H x d ∧ d.showable = true ∧ d.depth ≤ 60 ∧ d.shown.length ≤ sizeLine ∧ Q (.str d.shown) H
theorem call_reprOd {X : Cx} {K : PySem.W.Frag} (hg : X.A.guards = some []) (hu : X.A.units + 64 < cLine) (eK : X.K = K := by rfl) : CallR X (.builtin "repr") (rReprOd K) := by
  subst eK
  intro pins s σ H xs us Q I r h
  obtain ⟨x, S, d, rfl, hd, hs, hdp, hz, q⟩ := h
  cases hd with
  | dat h => exact call_reprD hg hu pins s σ H _ us Q I r ⟨x, d, rfl, h.dp, hs, hdp, hz, q⟩
  | @dic a m h n =>
    obtain ⟨u, rfl, rx⟩ := vals1 r
    cases rx
    obtain ⟨z, lo, vs, rel, dd⟩ := dk_rd I.hok (.inl h)
    obtain ⟨o, es, ep, ho, hex, hda, _, hpr, _⟩ := dd
    obtain ⟨r1, r2⟩ := reads_pairs (h := s.heap) hpr rel
    have rr : Reads s.heap (.ref a) (dicD m) (a :: [] ++ []) := .dict ho hex.1 hda r1 r2
    have nas : sysModules ∉ a :: ([] : List Addr) ++ [] := fun z => by
      have e : sysModules = a := by simpa using z
      rw [← e] at lo
      simp at lo
    exact repr_of_reads' rr hs (fun _ => nas) hg (by omega) (fun _ _ e => e) (fun h' v tk hk => ⟨.str _, H, I.kept hk, ⟨_, rfl⟩, q⟩) hz
end J

set_option Elab.async false
set_option linter.all false
set_option maxRecDepth 100000
set_option maxHeartbeats 4000000
namespace J
open PySem PySem.Spec L2 PyProof.Rows
/-! ### defs that raise nothing, where exceptions may be raised -/
theorem fn_lift {P : Program} {w : World} {K : PySem.W.Frag} {mg : Str → Option Value} {base : Heap} {k : Nat} {f : Addr} {fd : FuncData} {ps : List Str} {sp : Sp} (F : FnOk P w K mg base CX0 k f fd ps sp) : FnOk P w K mg base (L2.CX P w) k f fd ps sp :=
  ⟨F.len, fun A outer s H args us vs Q E hr e0 hb r h => codeAny_mono (F.run A outer s H args us vs Q E hr e0 hb r h) fun r s' q => by
    match r, q with
    | .error e, q => exact q.elim
    | .ok (.ret u), q => exact q
    | .ok .next, q => exact q
    | .ok .brk, q => exact q
    | .ok .cont, q => exact q⟩
/-! ### C(e, ..), its __init__ may raise -/
def tMakeS (C : Addr) (sp : Sp) (dvs : List V) (E : L2.St → XK) (t : TA) : TE := fun σ H Q => t σ H fun vs H1 => MakeAt C sp dvs (E σ) vs H1 Q
structure MakX (P : Program) (w : World) (K : PySem.W.Frag) (mg : Str → Option Value) (base : Heap) (CX : CXT) (k : Nat) (x : Str) (C : Addr) (sp : Sp) (dvs : List V) : Prop where
  ex : ∃ (f : Addr) (fd : FuncData) (ps : List Str) (ds : List Value), Mk K C f ∧ FnOk P w K mg base CX k f fd ps sp ∧ mg x = some (.ref C) ∧ Binds K fd ps ds ∧ Vals dvs ds
section
variable {X : Cx} {CX : CXT} {k j : Nat} {f C : Addr} {fd : FuncData} {ps : List Str} {sp : Sp} {dvs : List V} {ds : List Value} {E : L2.St → XK} {x : Str} {p pos : Pos} {e : Expr} {es : List Expr} {t : TA}
theorem run_makeS {pins : List (Addr × Obj)} {σ : L2.St} {H : Hp} {s : Shared} {Q : VK} {us : List Value} {vs : List V} (M : Mk X.K C f) (F : FnOk X.prog X.w X.K X.mg X.base CX k f fd ps sp) (hr : Room (k + 1) X.A) (hb : Binds X.K fd ps ds) (hd : Vals dvs ds)
    (hx : PassesAt CX X σ (E σ)) (I : Inv X pins σ H s) (r : Vals vs us) (h : MakeAt C sp dvs (E σ) vs H Q) : wpAny (model X.prog X.w) X.A (call (.ref C) us) (EP X pins σ Q) X.xe s := by
  have hq := h (s.heap.objs.size + 1) s.heap.objs.size (I.hok.fresh (Nat.le_succ _)) (I.hok.fresh (Nat.le_refl _)) (Nat.ne_of_lt (Nat.lt_succ_self _))
  have I2 := Inv.made (C := C) I
  have r2 : Vals (V.ref (s.heap.objs.size + 1) :: (vs ++ dvs)) (Value.ref (s.heap.objs.size + 1) :: (us ++ ds)) := .cons rfl (r.append hd)
  have hl : (Value.ref (s.heap.objs.size + 1) :: us ++ ds).length = ps.length := by
    have e := r2.length
    rw [F.len _ _ _ _ hq] at e
    exact e.symm
  refine wpAny_call (make_map (f := f) I.kIn M.makes M.init (beq_iff_eq.mp M.fn) (codeAny_mono (F.run _ X.stack _ _ ⟨Value.ref (s.heap.objs.size + 1) :: us, []⟩ (Value.ref (s.heap.objs.size + 1) :: (us ++ ds)) _ _ (E σ) (hr.make C us [])
    (I2.env0.make C us []) (hb _ (Value.ref (s.heap.objs.size + 1) :: us) I2.kIn hl) r2 hq) fun r s' hq' => ?_))
  cases r with
  | error e => exact hx pins _ _ e s' I2 hq'
  | ok fl =>
    cases fl with
    | ret u =>
      obtain ⟨v, H', I3, rv, ev, q3⟩ := I2.after hq'
      subst ev
      exact ⟨rv, ⟨V.ref (s.heap.objs.size + 1), H', I3, rfl, q3⟩⟩
    | next => exact False.elim hq'
    | brk => exact False.elim hq'
    | cont => exact False.elim hq'
theorem pe_mkX (c : MakX X.prog X.w X.K X.mg X.base CX k x C sp dvs) (hr : Room j X.A) (hk : k + 1 ≤ j) (hx : ∀ σ, PassesAt CX X σ (E σ)) (ha : PA X (e :: es) t) (hg : Gl X x := by rfl)
    (hdb : (x == ("__debug__" : Str)) = false := by decide) (he : starEach (e :: es) X.env = (false, eval e X.env) :: starEach es X.env := by rfl) (hpl : (backTo pos (starEach es X.env)).any (·.1) = false := by rfl) :
    PE X (.Call (.Name x p) (e :: es) [] pos) (tMakeS C sp dvs E t) := by
  obtain ⟨f, fd, ps, ds, M, F, hm, hb, hd⟩ := c.ex
  refine ⟨fun pins s σ H Q I h => ?_⟩
  refine wpAny_Call_Name_kw (ld_glob I hg hm ?_ hdb)
  refine PySem.W.callWith_K (h₀ := X.base) I.ok.mod.kin M.kp (thn (ha.run pos pins s σ H _ I h) fun us s1 ⟨vs, H1, I1, r, q⟩ => ⟨I1.kIn, ?_⟩) he hpl
  exact run_makeS M F (hr.mono hk) hb hd (hx σ) I1 r q
end
theorem r_makeS {C : Addr} {sp : Sp} {dvs : List V} {E : L2.St → XK} {t : TA} {σ : L2.St} {H : Hp} {Q : VK} (k : t σ H fun vs H1 => MakeAt C sp dvs (E σ) vs H1 Q) : tMakeS C sp dvs E t σ H Q := k
theorem pe_gcl {X : Cx} {C : Addr} {x : Str} {pos : Pos} (hg : Gl X x) (hm : X.mg x = some (.ref C)) (hd : (x == ("__debug__" : Str)) = false := by decide) : PE X (.Name x pos) (tC (.ref C)) := pe_glob (v := .ref C) hg hm rfl hd
/-- the fields of an error with one field -/
def fo1 (f why : Str) : List V → Option (List (Str × V))
  | [y] => some [(f, y), ("why", .str why)]
  | _ => none
end J

set_option Elab.async false
set_option linter.all false
set_option maxRecDepth 100000
set_option maxHeartbeats 4000000
namespace J
open PySem PySem.Spec L2 PyProof.Rows
/-! ### text * int -/
def repS (a : Str) (k : Nat) : Str := if k = 0 then Str.empty else if k = 1 ∨ a.length = 0 then a else ⟨(List.replicate k a.cps).foldl (· ++ ·) #[]⟩
def rRepS : R2 := fun x y H Q => ∃ (a : Str) (n : Nat), x = .str a ∧ y = .int n ∧ n ≤ 1000 ∧ a.length ≤ 1000 ∧ Q (.str (repS a n)) H
theorem op_mulS {X : Cx} : OpR X (binaryOp .Mult) rRepS := by
  intro pins s σ H x y v u Q I rx ry h
  obtain ⟨a, n, rfl, rfl, hn, ha, q⟩ := h
  obtain ⟨t, rfl⟩ := rx
  obtain ⟨t2, rfl⟩ := ry
  have hle : a.length * n ≤ 1000000 := Nat.le_trans (Nat.mul_le_mul ha hn) (by decide)
  refine PySem.P.mul_str (by rw [decide_eq_false (by omega), decide_eq_false (by omega)]; rfl) (fun h1 _ => ?_) (fun _ _ => ?_) ?_
  · have h3 : ((a.length * n : Nat) : Int) ≤ 1000000 := Int.ofNat_le.mpr hle
    rw [Int.natCast_mul] at h3
    exact Int.not_lt.mpr (Int.le_ediv_of_mul_le (Int.lt_of_lt_of_le (by decide) (Int.not_lt.mp h1)) (Int.le_trans h3 (by decide)))
  · rw [Int.toNat_natCast]
    exact Bool.eq_false_iff.mpr (PySem.W.KPc.short (by omega))
  · unfold repS at q
    by_cases h0 : n = 0
    · subst h0
      rw [if_pos (by decide)]
      rw [if_pos rfl] at q
      exact ⟨by decide, .str _, H, I.tok _, ⟨_, rfl⟩, q⟩
    · rw [if_neg (by omega)]
      rw [if_neg h0] at q
      by_cases h1 : n = 1 ∨ a.length = 0
      · rw [if_pos h1] at q
        have e : ((n : Int) == 1 || a.length == 0) = true := by
          rcases h1 with h | h
          · rw [h]; rfl
          · rw [h]; simp
        rw [if_pos e]
        exact ⟨.str _, H, I, ⟨_, rfl⟩, q⟩
      · rw [if_neg h1] at q
        have e : ((n : Int) == 1 || a.length == 0) = false := by
          rw [Bool.or_eq_false_iff]
          refine ⟨beq_eq_false_iff_ne.mpr fun z => h1 (.inl (by omega)), beq_eq_false_iff_ne.mpr fun z => h1 (.inr z)⟩
        rw [e, if_neg Bool.false_ne_true]
        refine ⟨?_, .str _, H, I.tok _, ⟨_, rfl⟩, q⟩
        rw [Int.toNat_natCast]
        have e2 : ∀ (k : Nat) (b : Array _), (List.foldl (fun x1 x2 => x1 ++ x2) b (List.replicate k a.cps)).size = b.size + k * a.cps.size := by
          intro k
          induction k with
          | zero => intro b; simp
          | succ k ih => intro b; rw [List.replicate_succ, List.foldl_cons, ih, Array.size_append, Nat.succ_mul]; omega
        have e3 : ({ cps := List.foldl (fun x1 x2 => x1 ++ x2) #[] (List.replicate n a.cps) } : Str).length = n * a.length := by
          show (List.foldl (fun x1 x2 => x1 ++ x2) #[] (List.replicate n a.cps)).size = n * a.cps.size
          rw [e2]; simp
        rw [e3]
        exact sz (by rw [Nat.mul_comm]; omega)
theorem r_iteSh {P A B : Prop} {dp : Decidable P} (T : A) (h2 : ¬ P → A → B) : if decide P = true then A else B := by
  by_cases h : P
  · rw [if_pos (decide_eq_true h)]; exact T
  · rw [if_neg (by rw [decide_eq_false h]; exact Bool.false_ne_true)]; exact h2 h T
end J
namespace J
open PySem PySem.Spec L2 PyProof.Rows L2H
/-! ### defs handed the exception in a suite: the reading knows its place, class and fields' dict -/
abbrev SpX := Addr → Value → Option Addr → Sp
def liftX (sp : SpX) : SpP := fun p vs H Q E => ∃ (cls : Value) (d : Option Addr), Zc cls d p.2 ∧ (∃ vs, p.2.data = .fields vs) ∧ sp p.1 cls d vs H Q E
section
variable {X : Cx} {CX : CXT} {k j : Nat} {sp : SpX} {E : L2.St → XK} {x : Str} {q pos : Pos} {e : Expr} {es : List Expr} {t : TA} {a : Addr} {oe : Obj} {cls : Value} {d : Option Addr}
theorem pe_clX (c : ClP X.prog X.w X.K X.mg X.base CX k x (liftX sp)) (hp : (a, oe) ∈ X.pn) (hz : Zc cls d oe) (hf : ∃ vs, oe.data = .fields vs) (hr : RoomH j X.A) (hk : k ≤ j) (hx : ∀ σ, PassesAt CX X σ (E σ)) (ha : PA X (e :: es) t) (hg : Gl X x := by rfl)
    (hdb : (x == ("__debug__" : Str)) = false := by decide) (he : starEach (e :: es) X.env = (false, eval e X.env) :: starEach es X.env := by rfl) (hpl : (backTo pos (starEach es X.env)).any (·.1) = false := by rfl) :
    PE X (.Call (.Name x q) (e :: es) [] pos) (tCallS (sp a cls d) E t) := by
  obtain ⟨f, fd, ps, F, hm, kp, hb⟩ := c.ex
  refine ⟨fun pins s σ H Q I h => ?_⟩
  refine wpAny_Call_Name_kw (ld_glob I hg hm ?_ hdb)
  refine PySem.W.callWith_K (h₀ := X.base) I.ok.mod.kin kp (thn (ha.run pos pins s σ H _ I h) fun us s1 ⟨vs, H1, I1, r, q⟩ => ⟨I1.kIn, ?_⟩) he hpl
  have hl : us.length = ps.length := by rw [← r.length]; exact F.len (a, oe) _ _ _ _ ⟨cls, d, hz, hf, q⟩
  have b := hb s1 us I1.kIn (by rw [List.append_nil]; exact hl)
  rw [List.append_nil] at b
  have P1 := I1.pin (a, oe) (List.mem_append_left _ hp)
  have hpin : PinOk X.stack H1 s1 (a, oe) := ⟨P1.1, P1.2.1, fun hm => (List.mem_cons.mp (I1.stkSub a hm)).elim P1.2.2.1 P1.2.2.2.1, P1.2.2.2.2⟩
  refine wpAny_call (codeAny_mono (F.run X.A X.stack s1 H1 ⟨us, []⟩ us vs Q (E σ) (a, oe) (hr.mono hk) hpin I1.env0 b r ⟨cls, d, hz, hf, q⟩) fun r s' hq => ?_)
  cases r with
  | error e => exact hx σ pins H1 s1 e s' I1 hq
  | ok fl =>
    cases fl with
    | ret u => exact I1.after hq
    | next => exact False.elim hq
    | brk => exact False.elim hq
    | cont => exact False.elim hq
end
end J

set_option Elab.async false
set_option linter.all false
set_option maxRecDepth 100000
set_option maxHeartbeats 4000000
namespace J
open PySem PySem.Spec L2 PyProof.Rows
/-! ### several except clauses, each with its own «as n» -/
/-- a clause: the class, the slot of its name, what its suite reads -/
structure Cls3 where
  c : Value
  i : Nat
  ts : Addr → Value → Option Addr → TS
def wManyAs (K : PySem.W.Frag) (Wout : WX) (D : Ends) : List Cls3 → WX
  | [] => Wout
  | h :: r => wAs K h.c h.i h.ts (wManyAs K Wout D r) D
inductive HdsAs (X : Cx) : List ExceptHandler → List Cls3 → Prop
  | nil : HdsAs X [] []
  | cons {x n : Str} {c : Value} {i : Nat} {ts : Addr → Value → Option Addr → TS} {b₀ : Stmt} {suite : List Stmt} {np pos' : Pos} {hds : List ExceptHandler} {l : List Cls3} (hi : X.N[i]? = some n) (hln : X.env.kindOf n = some .local) (hc : Names X x c)
      (hsu : ∀ (a : Addr) (oe : Obj) (cls : Value) (d : Option Addr) (pn : List (Addr × Obj)), Zc cls d oe → (∃ vs, oe.data = .fields vs) → PSs (X.suite a ((a, oe) :: pn)) (b₀ :: suite) (ts a cls d)) (r : HdsAs X hds l) :
      HdsAs X (.ExceptHandler (some (.Name x np)) (some n) (b₀ :: suite) pos' :: hds) (⟨c, i, ts⟩ :: l)
section
variable {X : Cx} {body : List Stmt} {h₀ : ExceptHandler} {hds : List ExceptHandler} {l : List Cls3} {pos : Pos} {tb : WX → TS} {Wout : WX}
theorem ps_try_manyAs (hs : X.stack = X.env :: X.outer) (hf : X.env.frame = some X.env.locals) (hN : X.N.Nodup) (tk : Takes X Wout)
    (hb : ∀ (W : WX) (pn : List (Addr × Obj)) (xe : Value → Shared → Prop), Takes (X.tr pn xe) W → PassesOwn (model X.prog X.w) X.A X.env xe → PSs (X.tr pn xe) body (tb W))
    (hh : HdsAs X (h₀ :: hds) l) : PS X (.Try body (h₀ :: hds) [] [] pos) (fun D σ H => tb (wManyAs X.K Wout D l) D σ H) := by
  refine ⟨fun pins s σ H D I h => ?_⟩
  have ok := I.ok
  have hfr : X.A.frames = some (X.env :: X.outer) := by rw [ok.frames, hs]
  refine wpAny_Try_except ?_
  refine wpAny_mono ((hb (wManyAs X.K Wout D l) (X.pn ++ pins) (fun e s₁ => wpAny (model X.prog X.w) X.A (noteFrame e X.env) (fun _ s₂ => wpAny (model X.prog X.w) X.A (setFlight e none) (fun _ s₃ =>
    wpAny (model X.prog X.w) X.A (handleBy e X.env (h₀ :: hds)) (SP X pins D) X.xe s₃) X.xe s₂) X.xe s₁) (fun u s' xx => ?_) PassesOwn.looking).run [] s σ H D (I.toTry _) h) (fun f s1 hsp => ?_) (fun e s1 he => he)
  · obtain ⟨a, B, sI, pins', σ', H', cls, d, rfl, J', nb, up, sky, na, os, ag, w⟩ := xx
    have J : Inv X pins σ' H' sI := J'.ofTry ok
    have sky' : Sky B (X.env :: X.outer) a (Zc cls d) X.env.locals s'.heap := by rw [← hs]; exact sky
    show wpAny (model X.prog X.w) X.A (noteFrame (.ref a) X.env) _ _ _
    refine Sky.land Zc.steady hfr hf sky' fun h3 fl3 up3 => ?_
    have J3 : Inv X pins σ' H' { s' with heap := h3 } := J.landed nb fl3.1 (up.trans up3) os ag
    obtain ⟨oe3, vs3, he3, hz3, hd3⟩ := fl3.there
    have notFr : ∀ {h : Heap} {o : Obj} {vs : Array Value}, h.FunFrames B (X.env :: X.outer) → h.get? a = some o → o.data = .fields vs → a ∉ frs (X.env :: X.outer) := fun {h o vs} ff e dd hm => by
      obtain ⟨_, o', e', hnf⟩ := ff.mem hm
      rw [e] at e'; cases e'
      exact hnf _ dd
    have nfr := notFr fl3.2.2.1 he3 hd3
    have nL : a ≠ X.env.locals := fun z => nfr (List.mem_filterMap.mpr ⟨X.env, List.mem_cons_self, by rw [hf, z]⟩)
    have nF : a ∉ X.fs := fun hm => by
      obtain ⟨e, he, q⟩ := List.mem_filterMap.mp hm
      exact nfr (List.mem_filterMap.mpr ⟨e, List.mem_cons_of_mem _ he, q⟩)
    have S3 := J3.suite he3 hd3 na nL nF
    have go : ∀ {hds' : List ExceptHandler} {l' : List Cls3}, HdsAs X hds' l' → wManyAs X.K Wout D l' cls d σ' H' →
        wpAny (model X.prog X.w) X.A (handleBy (.ref a) X.env hds') (SP X pins D) X.xe { s' with heap := h3 } := by
      intro hds' l' hk
      induction hk with
      | nil =>
        intro w
        refine wpAny_handleBy_nil ?_
        obtain ⟨k1, k2, k3, oe, vs, T, oT, ts', he, hz, hd, h1, hr⟩ := id fl3
        unfold PySem.passOn
        refine wpAny_bind (wpAny_field he hd h1 ?_)
        rw [if_neg (show ¬ ((Value.ref T == Value.none) = true) from by simp)]
        have fin : wpAny (model X.prog X.w) X.A (setFlight (.ref a) X.env.frame) (fun _ s4 => wpAny (model X.prog X.w) X.A (throw (.ref a) : Sem Flow) (SP X pins D) X.xe s4) X.xe { s' with heap := h3 } := by
          rw [hf]
          refine HandSPX.setFlight_upZ fl3 fun h4 hh4 up4 => wpAny_throw (tk _ _ ?_)
          exact ⟨a, B, sI, pins, σ', H', cls, d, rfl, J, nb, (up.trans up3).trans up4, .inr (.inr (by rw [hs]; exact hh4)), na, os, ag, w⟩
        first
          | exact wpAny_bind (wpAny_pure (wpAny_bind fin))
          | exact wpAny_bind fin
      | @cons x n c i ts b₀ suite np pos' hds2 l2 hi hln hc hsu r ih =>
        intro w
        obtain ⟨b, hb1, hyes, hno⟩ := w
        have hloc : Loc X.env.scope n := .inl hln
        refine wpAny_handleBy_cons (codeAny_handlers_test ?_) (by intro q; cases q)
        have LT : PySem.W.Looks (model X.prog X.w) h3 (typeOf (.ref a)) cls := fun A Q E s k q => wpAny_typeOf_ref (k _ _ he3) (by rw [hz3.1]; exact q)
        have LM := PySem.W.exm_one (M := model X.prog X.w) (J3.kIn) LT hb1
        have test : ∀ {Q : Value → Shared → Prop} {E : Value → Shared → Prop}, Q c { s' with heap := h3 } → wpAny (model X.prog X.w) (X.A.mark (some (.ref a))) (eval (.Name x np) X.env) Q E { s' with heap := h3 } := fun {Q E} q => by
          obtain ⟨hg, hdbg, hm | ⟨hm, hv, hnn⟩⟩ := hc
          · exact ld_glob (X := X.suite a ((a, oe3) :: (X.pn ++ pins))) S3 hg hm q hdbg
          · exact ld_blt (X := X.suite a ((a, oe3) :: (X.pn ++ pins))) S3 hg hm hv q hnn hdbg
        refine test (LM.here ?_)
        cases b with
        | true =>
          refine codeAny_handlers_suite_as ?_
          refine HandSPX.lands_againZ fl3 fun h4 fl4 up4 => ?_
          have J4 : Inv X pins σ' H' { s' with heap := h4 } := J.landed nb fl4.1 ((up.trans up3).trans up4) os ag
          obtain ⟨oe4, vs4, he4, hz4, hd4⟩ := fl4.there
          have S4 := J4.suite he4 hd4 na nL nF
          refine store_ok (X := X.suite a ((a, oe4) :: (X.pn ++ pins))) (v := .ref a) S4 hN hi hloc rfl (fun s5 S5 => ?_) (.inr hln)
          refine wpAny_mono ((hsu a oe4 cls d (X.pn ++ pins) hz4 ⟨_, hd4⟩).run [] s5 _ H' _ S5 (hyes rfl a na)) (fun f s6 hsp => ?_) (fun _ _ z => False.elim z)
          have end_ : ∀ {σ6 : L2.St} {H6 : Hp} {Q : Shared → Prop}, Inv (X.suite a ((a, oe4) :: (X.pn ++ pins))) [] σ6 H6 s6 → (∀ s7, Inv X pins (σ6.set i none) H6 s7 → Q s7) →
              wpAny (model X.prog X.w) X.A (do bindName X.env n .none; unbindBehindTheSuite X.env n pos') (fun _ s7 => Q s7) X.xe s6 := fun {σ6 H6 Q} S6 hq => gone_ok (S6.unsuite ok) hN hi hln hq
          cases f with
          | next =>
            obtain ⟨σ6, H6, S6, q6⟩ := hsp
            exact end_ S6 fun s7 J7 => ⟨_, _, J7, q6⟩
          | brk =>
            obtain ⟨σ6, H6, S6, q6⟩ := hsp
            exact end_ S6 fun s7 J7 => ⟨_, _, J7, q6⟩
          | cont =>
            obtain ⟨σ6, H6, S6, q6⟩ := hsp
            exact end_ S6 fun s7 J7 => ⟨_, _, J7, q6⟩
          | ret u =>
            obtain ⟨v6, σ6, H6, S6, r6, q6⟩ := hsp
            exact end_ S6 fun s7 J7 => ⟨_, _, _, J7, r6, q6⟩
        | false =>
          show wpAny _ X.A (handleBy (.ref a) X.env hds2) _ _ _
          exact ih (hno rfl)
    exact go hh w
  · cases f with
    | next =>
      obtain ⟨σ', H', J', q⟩ := hsp
      exact wpAny_execs_nil ⟨σ', H', J'.ofTry ok, q⟩
    | brk =>
      obtain ⟨σ', H', J', q⟩ := hsp
      exact ⟨σ', H', J'.ofTry ok, q⟩
    | cont =>
      obtain ⟨σ', H', J', q⟩ := hsp
      exact ⟨σ', H', J'.ofTry ok, q⟩
    | ret u =>
      obtain ⟨v, σ', H', J', r, q⟩ := hsp
      exact ⟨v, σ', H', J'.ofTry ok, r, q⟩
end
end J

set_option Elab.async false
set_option linter.all false
set_option maxRecDepth 100000
set_option maxHeartbeats 4000000
open PySem L2 PyProof.Rows J
local macro_rules | `(tactic| walk_at "lv") => `(tactic| first
  | assumption
  | (refine J.lv_same (by assumption) ?_; walk_at "lv")
  | (refine J.lv_but (by assumption) ?_; walk_at "lv")
  | (refine J.live_of (by assumption)))
local macro_rules | `(tactic| walk_at "ne") => `(tactic| first
  | assumption
  | (apply Ne.symm; assumption)
  | (refine J.ne_live ?_ (by assumption); walk_at "lv")
  | (apply Ne.symm; refine J.ne_live ?_ (by assumption); walk_at "lv"))
local macro_rules | `(tactic| walk_at "ni") => `(tactic| first
  | assumption
  | exact List.not_mem_nil
  | (refine J.ni_cons ?_ ?_; walk_at "ne"; walk_at "ni"))
local macro_rules | `(tactic| walk_at "hp") => `(tactic| first
  | assumption
  | exact upd_same
  | (apply J.same_at; assumption; walk_at "hp")
  | (apply J.but_at; assumption; walk_at "hp"; walk_at "ni")
  | (apply J.but_tup; assumption; walk_at "hp"))
local macro_rules | `(tactic| walk_at "sq") => `(tactic| first
  | assumption
  | (apply SqL.of; walk_at "hp")
  | (apply SqT.of; walk_at "hp")
  | (apply J.same_sqL; assumption; walk_at "sq")
  | (apply J.same_sqT; assumption; walk_at "sq")
  | (apply J.but_sqT; assumption; walk_at "sq")
  | (apply J.but_sqL; assumption; walk_at "sq"; walk_at "ni"))
local macro_rules | `(tactic| walk_at "dn") => `(tactic| first
  | assumption
  | exact J.Dn.int _
  | exact J.Dn.str _
  | exact J.Dn.non
  | exact J.Dn.bl _
  | (refine J.Dn.tup (by walk_at "sq") ?_; walk_at "da")
  | (refine J.dn_same (by assumption) ?_; walk_at "dn")
  | (refine J.dn_but (by assumption) ?_ ?_; walk_at "dn"; walk_at "nis"))
local macro_rules | `(tactic| walk_at "da") => `(tactic| first
  | assumption
  | exact J.DnAll.nil
  | (refine J.DnAll.cons ?_ ?_; walk_at "dn"; walk_at "da")
  | (refine J.da_same (by assumption) ?_; walk_at "da")
  | (refine J.da_but (by assumption) ?_ ?_; walk_at "da"; walk_at "nis"))
local macro_rules | `(tactic| walk_at "nis") => `(tactic| first
  | exact J.sub_nil
  | (refine J.sub_cons ?_ ?_; walk_at "mem"; walk_at "nis"))
local macro_rules | `(tactic| walk_at "le") => `(tactic| first
  | exact J.Le.refl
  | (refine J.le_same ?_ (by assumption); walk_at "le")
  | (refine J.le_but ?_ (by assumption); walk_at "le"))
local macro_rules | `(tactic| walk_at "fr") => `(tactic| first
  | assumption
  | (refine J.fr_le ?_ (by assumption); walk_at "le"))
local macro_rules | `(tactic| walk_at "mem") => `(tactic| with_reducible first
  | exact List.mem_cons_self
  | (refine List.mem_cons_of_mem _ ?_; walk_at "mem"))
local macro_rules | `(tactic| walk_at "bc") => `(tactic| first
  | exact J.bc_nil
  | (refine J.bc_in ?_ ?_; walk_at "mem"; walk_at "bc")
  | (refine J.bc_fr ?_ ?_; walk_at "fr"; walk_at "bc"))
local macro_rules | `(tactic| walk_at "bt") => `(tactic| first
  | exact J.But.refl
  | (refine J.bt_same ?_ (by assumption); walk_at "bt")
  | (refine J.bt_but ?_ (by assumption) ?_; walk_at "bt"; walk_at "bc"))
local macro_rules | `(tactic| walk_at "sm") => `(tactic| (refine J.But.same ?_; walk_at "bt"))
local macro_rules | `(tactic| walk_at "sd") => `(tactic| first
  | assumption
  | decide
  | omega
  | (unfold CDiv; omega)
  | (unfold CPow; omega)
  | (unfold CMul; omega))
local macro_rules | `(tactic| walk_at "s") => `(tactic| with_reducible first
  | refine J.r_seq ?_
  | refine J.r_asg ?_
  | refine J.r_drop ?_
  | refine J.r_ret ?_
  | refine J.r_retN ?_
  | refine J.r_ifS ?_
  | refine J.r_next ?_
  | refine J.r_test ?_
  | refine J.r_tB ?_
  | refine J.r_exb ?_
  | refine J.r_op ?_
  | refine J.r_un ?_
  | refine J.r_var rfl ?_
  | refine J.r_c ?_
  | refine J.r_I0 ?_
  | refine J.r_addI ?_
  | refine J.r_eqI ?_
  | refine J.r_neI ?_
  | refine J.r_ltI ?_
  | refine J.r_eqS ?_
  | refine J.r_neS ?_
  | refine J.r_cons ?_
  | refine J.r_nil ?_
  | refine J.r_tup ?_
  | refine J.r_lst ?_
  | refine J.r_CB ?_
  | refine J.r_callS ?_
  | refine J.r_if ?_
  | refine J.r_and ?_
  | refine J.r_or ?_
  | refine J.r_not ?_
  | refine J.r_aug rfl ?_
  | refine J.r_iaddI ?_
  | refine J.g_name ?_
  | refine J.g_cons ?_
  | refine J.g_nil ?_
  | refine J.r_I (by walk_at "sd") ?_
  | refine J.r_mulI (by walk_at "sd") ?_
  | (apply J.r_ixL; walk_at "sq"; first | exact J.at0 | exact J.at1 | exact J.at2 | with_unfolding_all rfl)
  | (apply J.r_ixT; walk_at "sq"; first | exact J.at0 | exact J.at1 | exact J.at2 | with_unfolding_all rfl)
  | refine J.r_forL ?_
  | refine J.r_forR ?_
  | refine J.r_forR2 ?_
  | refine J.r_forE ?_
  | refine J.r_lcL ?_
  | refine J.r_bm ?_
  | (apply J.r_tyL; walk_at "sq")
  | (apply J.r_lenL; walk_at "sq")
  | refine J.r_asgG ?_
  | refine J.g_sub ?_
  | (apply J.g_tup; walk_at "sq"; with_unfolding_all rfl)
  | refine J.r_dget2 ?_
  | refine J.r_dput ?_
  | refine J.r_dget ?_
  | refine J.r_din ?_
  | refine J.r_dnin ?_
  | refine J.r_dpop2 ?_
  | refine J.r_dpop1 ?_
  | (apply J.r_isD; walk_at "hp")
  | refine J.r_max2 ?_
  | refine J.r_sl ?_
  | refine J.r_noPart ?_
  | refine J.r_part ?_
  | refine J.r_exi ?_
  | refine J.r_listItems ?_
  | refine J.r_par ?_
  | refine J.r_andV ?_
  | refine J.r_notV ?_
  | refine J.r_orV ?_
  | refine J.r_leI ?_
  | refine J.r_chain ?_
  | refine J.r_isNn ?_
  | refine J.r_notNn ?_
  | refine J.r_truB ?_
  | refine J.r_truA ?_
  | refine J.r_fld ?_
  | refine J.r_sfld ?_
  | refine J.r_sfldaug ?_
  | refine J.r_meth ?_
  | refine J.r_methS ?_
  | refine J.r_mkO ?_
  | refine J.r_ost ?_
  | refine J.r_veI ?_
  | refine J.r_lcR3 ?_
  | refine J.r_make ?_
  | refine J.r_callD ?_
  | refine J.r_kw ?_
  | refine J.r_kwAt (by with_unfolding_all rfl) (by with_unfolding_all rfl) ?_
  | refine J.r_lcZ ?_
  | refine J.r_lcT ?_
  | refine J.r_forT ?_
  | refine J.r_bm0 ?_
  | (apply J.r_fldAt; walk_at "hp"; assumption; assumption; with_unfolding_all rfl)
  | refine J.r_ex2 ?_)
local macro_rules | `(tactic| walk_at "st") => `(tactic| first
  | walk_at "s"
  | ((with_reducible refine J.r_newT (J.sz (Nat.le_of_ble_eq_true rfl)) ?_); intro _ _ _ _ _))
local macro_rules | `(tactic| walk_at "to") => `(tactic| repeat ((fail_if_success (with_reducible refine J.r_seq ?_)); walk_at "s"))

namespace L02
def top (i : Nat) : Stmt := PySem.Challenge.pw_revokelog_k02_whole_crashes_of_disks.main.body.getD i (.Pass ⟨0, 0, 0, 0⟩)
structure Bl (mg : Str → Option Value) : Prop where
  int : mg "int" = none
  len : mg "len" = none
  list : mg "list" = none
  range : mg "range" = none
  repr : mg "repr" = none
  tuple : mg "tuple" = none
  isinstance : mg "isinstance" = none
  all : mg "all" = none
  str : mg "str" = none
  bool : mg "bool" = none
  ValueError : mg "ValueError" = none
  enumerate : mg "enumerate" = none
structure Gi (mg : Str → Option Value) : Prop where
  MOST_BLOCKS : ∃ tk, mg "MOST_BLOCKS" = some (.int 128 tk)
  MOST_NESTED : ∃ tk, mg "MOST_NESTED" = some (.int 8 tk)
structure TDisk (K : PySem.W.Frag) (C : Addr) : Prop where
  cl : Cls K C
  n1 : NoAttr K C "first"
  n2 : NoAttr K C "safe"
  n3 : NoAttr K C "writes"
  n4 : NoAttr K C "deeds"
section
variable {P : Program} {w : World} {K : PySem.W.Frag} {mg : Str → Option Value} {base : Heap} {CDisk : Addr}
/-! ### is_integer, is_between, is_value -/
def spIsInt (K : PySem.W.Frag) : Sp := fun vs H Q _ => ∃ x S d, vs = [x] ∧ Dn K S H x d ∧ Q (.bl (intB d)) H
abbrev s_is_integer : Stmt := top 19
abbrev N_is_integer : List Str := ["value"]
theorem sc_is_integer : FnScope N_is_integer ["value"] (defScope s_is_integer) :=
  ⟨rfl, rfl, rfl, by decide +kernel, rfl, by decide +kernel, by decide +kernel⟩

theorem ok_is_integer {f : Addr} {fd : FuncData} (F : Fun K "is_integer" "is_integer" s_is_integer f fd) (B : Bl mg) :
    FnOk P w K mg base CX0 1 f fd ["value"] (spIsInt K) := by
  refine F.ok sc_is_integer (fun vs H Q E h => ?_) (fun cdv A outer s H vs Q E hr h => ?_)
  · obtain ⟨_, _, _, rfl, _⟩ := h
    rfl
  · obtain ⟨x, S, d, rfl, hx, k⟩ := h
    have hu := hu_of hr
    have nd := sc_is_integer.nd
    refine ⟨_, (pss_one (ps_ret (pe_and (pe_callB (call_isiA (K := K)) rfl B.isinstance (by decide +kernel) (pa_cons (pv 0) (pa_cons (pe_tyN (T := "int") rfl B.int (by decide +kernel)) pa_nil))) (pe_one (pe_not (pe_callB (call_isiA (K := K)) rfl B.isinstance (by decide +kernel) (pa_cons (pv 0) (pa_cons (pe_tyN (T := "bool") rfl B.bool (by decide +kernel)) pa_nil)))))))), ?_⟩
    repeat walk_at "s"
    refine r_isInt hx ?_
    repeat walk_at "s"
    refine r_iteB (fun e => ?_) (fun e => ?_)
    · repeat walk_at "s"
      refine r_isBool hx ?_
      repeat walk_at "s"
      cases d <;> first | exact k | (simp [isIntD] at e; done)
    · cases d <;> first | exact k | (simp [isIntD] at e; done)
def spBet (K : PySem.W.Frag) : Sp := fun vs H Q _ => ∃ x S d lo hi, vs = [x, .int lo, .int hi] ∧ Dn K S H x d ∧ Q (.bl (betB d lo hi)) H
abbrev s_is_between : Stmt := top 20
abbrev N_is_between : List Str := ["value", "low", "high"]
theorem sc_is_between : FnScope N_is_between ["value", "low", "high"] (defScope s_is_between) :=
  ⟨rfl, rfl, rfl, by decide +kernel, rfl, by decide +kernel, by decide +kernel⟩

theorem ok_is_between {f : Addr} {fd : FuncData} (F : Fun K "is_between" "is_between" s_is_between f fd) (C_is_integer : Cl P w K mg base CX0 1 "is_integer" (spIsInt K)) :
    FnOk P w K mg base CX0 2 f fd ["value", "low", "high"] (spBet K) := by
  refine F.ok sc_is_between (fun vs H Q E h => ?_) (fun cdv A outer s H vs Q E hr h => ?_)
  · obtain ⟨_, _, _, _, _, rfl, _⟩ := h
    rfl
  · obtain ⟨x, S, d, lo, hi, rfl, hx, k⟩ := h
    have hu := hu_of hr
    have nd := sc_is_between.nd
    refine ⟨_, (pss_one (ps_ret (pe_and (pe_cl (E := fun _ => E0) C_is_integer hr (by decide) pass00 (pa_cons (pv 0) pa_nil)) (pe_one (pe_chain op_le op_le (pv 1) (pv 0) (pv 2)))))), ?_⟩
    repeat walk_at "s"
    refine ⟨x, S, d, rfl, hx, ?_⟩
    repeat walk_at "s"
    refine r_iteB (fun e => ?_) (fun e => ?_)
    · obtain ⟨i, rfl⟩ : ∃ i, d = .int i := by
        cases d <;> first | exact ⟨_, rfl⟩ | (simp [intB] at e; done)
      obtain rfl := hx.int_inv
      repeat walk_at "s"
      refine r_ite (fun h1 => ?_) (fun h1 => ?_)
      · repeat walk_at "s"
        have e2 : betB (.int i) lo hi = decide (i ≤ hi) := by simp [betB, h1]
        rw [e2] at k
        exact k
      · have e2 : betB (.int i) lo hi = false := by simp [betB, h1]
        rw [e2] at k
        exact k
    · have e2 : betB d lo hi = false := by
        cases d <;> first | rfl | (simp [intB] at e; done)
      rw [e2] at k
      exact k
def spVal (K : PySem.W.Frag) (m : Nat) : Sp := fun vs H Q _ => ∃ (x : V) (S : List Addr) (d : PyData) (dep : Nat), vs = [x, .int dep] ∧ Dn K S H x d ∧ slim d = true ∧ dep ≤ 8 ∧ 9 ≤ dep + m ∧
  ∀ H', Same H H' → Q (.bl (valB d dep)) H'
abbrev s_is_value : Stmt := top 21
abbrev N_is_value : List Str := ["value", "depth", "one"]
theorem sc_is_value : FnScope N_is_value ["value", "depth"] (defScope s_is_value) :=
  ⟨rfl, rfl, rfl, by decide +kernel, rfl, by decide +kernel, by decide +kernel⟩

theorem ok_is_value {f : Addr} {fd : FuncData} {dvs : List V} {kws : List (Str × V)} (F : FunD K "is_value" "is_value" (defArgs s_is_value) (defBody s_is_value) (defScope s_is_value) dvs kws f fd) (B : Bl mg) (G : Gi mg) {m : Nat}
    (C_is_integer : Cl P w K mg base CX0 1 "is_integer" (spIsInt K)) (C_is_value : Cl P w K mg base CX0 (m + 1) "is_value" (spVal K m)) :
    FnOk P w K mg base CX0 (m + 2) f fd ["value", "depth"] (spVal K (m + 1)) := by
  refine F.ok sc_is_value (fun vs H Q E h => ?_) (fun cdv A outer s H vs Q E hr h => ?_)
  · obtain ⟨_, _, _, _, rfl, _⟩ := h
    rfl
  · obtain ⟨x, S, d, dep, rfl, hx, hsl, hd, hm, k⟩ := h
    have hr : Room (m + 1) _ := hr
    have hr1 : Room 1 _ := hr.mono (by omega)
    have hu := hu_of hr
    have nd := sc_is_value.nd
    refine ⟨_, (pss_cons (ps_if (pt_tru (K := K) (pe_callB (call_isiA (K := K)) rfl B.isinstance (by decide +kernel) (pa_cons (pv 0) (pa_cons (pe_tyN (T := "tuple") rfl B.tuple (by decide +kernel)) pa_nil)))) (pss_one (ps_ret (pe_and (pe_cmpR op_ltA (pv 1) (pe_gintE rfl G.MOST_NESTED) (nomark _)) (pe_one (pe_callB (call_allA (K := K) rfl) rfl B.all (by decide +kernel) (pa_cons (pe_lc (own := [("one", 2)]) (g := (gName 2)) (tt := tYes) rfl nd (pi_tpl (K := K) (pv 0)) (blkOk_by (own := [("one", 2)]) (N := N_is_value) (sc := defScope s_is_value) (by decide +kernel)) (fun _ _ _ _ _ => (pg_name (i := 2) nd rfl (by first | exact Or.inl rfl | exact Or.inr rfl))) (fun _ _ _ _ _ => pts_nil) (fun _ _ _ _ _ => pe_cl (E := fun _ => E0) C_is_value hr (by omega) pass00 (pa_cons (pv 2) (pa_cons (pe_op (op_addA (K := K)) (pv 1) pe_int) pa_nil)))) pa_nil)))))) pss_nil)
      (pss_one (ps_ret (pe_or (pe_cl (E := fun _ => E0) C_is_integer hr (by omega) pass00 (pa_cons (pv 0) pa_nil)) (pe_one (pe_callB (call_isiA (K := K)) rfl B.isinstance (by decide +kernel) (pa_cons (pv 0) (pa_cons (pe_tyN (T := "str") rfl B.str (by decide +kernel)) pa_nil)))))))), ?_⟩
    repeat walk_at "s"
    refine r_isTup hx ?_
    repeat walk_at "s"
    refine r_iteB (fun e => ?_) (fun e => ?_)
    · obtain ⟨ds, rfl⟩ : ∃ ds, d = .tuple ds := by
        cases d <;> first | exact ⟨_, rfl⟩ | (simp [isTupD] at e; done)
      obtain ⟨a, xs, rfl, ha, hxs⟩ := hx.tup_inv
      have hlen : xs.length = ds.length := hxs.length
      have ev : valB (.tuple ds) dep = (decide (dep < 8) && valsB ds (dep + 1)) := rfl
      repeat walk_at "s"
      refine r_ite (fun hd8 => ?_) (fun hd8 => ?_)
      · have hd8' : dep < 8 := by omega
        repeat walk_at "s"
        refine lcT ha (fun l H1 hl s1 hl1 => ?_)
        refine ⟨fun j H' => But [l] H1 H' ∧ H' l = some (.lst (((ds.take j).map fun d => valB d (dep + 1)).map V.bl)), ⟨.refl, hl1⟩, ?_, ?_, ?_⟩
        · rintro j H2 hj ⟨b2, hl2⟩
          exact b2.sqT ((But.of_same (S := []) s1).sqT ha)
        · rintro j y H2 hj ⟨b2, hl2⟩
          obtain ⟨dy, hdy, hy⟩ := hxs.get hj
          obtain ⟨hz, hsl2⟩ := slim_tup hsl
          have hjl : j < xs.length := (List.getElem?_eq_some_iff.mp hj).1
          repeat walk_at "s"
          refine ⟨rfl, ?_⟩
          refine r_yes ?_
          refine r_iteT rfl ?_
          repeat walk_at "s"
          have hy2 : Dn K (l :: S) H2 y dy := ((hy.fresh hl).same s1).but b2 (by walk_at "nis")
          refine ⟨y, l :: S, dy, dep + 1, rfl, hy2, slims_mem hsl2 (List.mem_of_getElem? hdy), by omega, by omega, fun H3 s3 => ?_⟩
          refine ⟨_, s3 _ _ hl2, szl (by simp only [List.length_map, List.length_take]; omega), ?_⟩
          obtain ⟨H4, e4, b4, hl4⟩ := upd_ex (o' := .lst ((((ds.take j).map fun d => valB d (dep + 1)).map V.bl) ++ [.bl (valB dy (dep + 1))])) (s3 _ _ hl2)
          rw [e4]
          refine ⟨b2.trans ((But.of_same s3).trans b4), ?_⟩
          rw [hl4, List.take_add_one, hdy, List.map_append, List.map_append]
          rfl
        · rintro H2 ⟨b2, hl2⟩
          rw [hlen, List.take_length] at hl2
          refine ⟨l, _, rfl, .of hl2, ?_⟩
          have e2 : (ds.map fun d => valB d (dep + 1)).all id = valsB ds (dep + 1) := by
            rw [valsB_all, List.all_map]; rfl
          rw [e2]
          rw [ev, decide_eq_true hd8', Bool.true_and] at k
          exact k H2 (by walk_at "sm")
      · rw [ev, decide_eq_false (by omega), Bool.false_and] at k
        exact k H fun _ _ e => e
    · repeat walk_at "s"
      refine ⟨x, S, d, rfl, hx, ?_⟩
      repeat walk_at "s"
      refine r_iteB (fun e => ?_) (fun e => ?_)
      · repeat walk_at "s"
        have e2 : valB d dep = true := by
          cases d <;> first | rfl | (simp [intB] at *; done)
        rw [e2] at k
        exact k H fun _ _ e => e
      · repeat walk_at "s"
        refine r_isStr hx ?_
        have e2 : valB d dep = isStrD d := by
          cases d <;> first | rfl | (simp [intB, isTupD] at *; done)
        rw [← e2]
        exact k H fun _ _ e => e
end
end L02

open PySem L2 PyProof.Rows J

namespace L02
section
variable {P : Program} {w : World} {K : PySem.W.Frag} {mg : Str → Option Value} {base : Heap} {CDisk : Addr}
theorem bet_iff {i lo hi : Int} : betB (.int i) lo hi = true ↔ lo ≤ i ∧ i ≤ hi := by simp [betB]
/-! ### disks -/
def spDiskInit (K : PySem.W.Frag) (CDisk : Addr) : Sp := fun vs H Q _ => ∃ (d dx : Addr) (n : Nat), vs = [.ref d, .int n] ∧ H d = some (.ins CDisk dx []) ∧ 1 ≤ n ∧ n ≤ 128 ∧
  ∀ ls H', Fr ls H → But [d] H H' → DiskAt K CDisk H' d (d :: ls) n 0 (DM.new n) → Q .non H'
theorem rep_zeros (n : Nat) : (List.replicate n [V.int 0]).flatten = List.replicate n (V.int 0) := by
  induction n with
  | zero => rfl
  | succ n ih => rw [List.replicate_succ, List.flatten_cons, ih]; rfl
theorem dn_zeros {S : List Addr} {H : Hp} : ∀ n : Nat, DnAll K S H (List.replicate n (V.int 0)) (zeros n)
  | 0 => .nil
  | n + 1 => by
    show DnAll K S H (List.replicate (n + 1) (V.int 0)) (List.replicate (n + 1) (PyData.int 0))
    rw [List.replicate_succ, List.replicate_succ]
    exact .cons (.int _) (dn_zeros n)
theorem r_rep {H : Hp} {Q : VK} {p : Addr} {n : Nat} {xs : List V} (h : H p = some (.lst xs)) (c : n < 1000000) (c2 : xs.length * n ≤ 16777216)
    (k : ∀ l H', H l = none → Same H H' → H' l = some (.lst (List.replicate n xs).flatten) → Q (.ref l) H') : rMulA K (.ref p) (.int n) H Q := by
  refine .inr (.inl ⟨p, n, xs, rfl, rfl, h, by omega, by omega, sz c2, fun l hl => ?_⟩)
  exact k l _ hl (But.new (S := []) hl).same upd_same
abbrev s_Disk_init : Stmt := inClass (top 22) 0
abbrev N_Disk_init : List Str := ["self", "blocks"]
theorem sc_Disk_init : FnScope N_Disk_init ["self", "blocks"] (defScope s_Disk_init) :=
  ⟨rfl, rfl, rfl, by decide +kernel, rfl, by decide +kernel, by decide +kernel⟩

theorem ok_Disk_init {f : Addr} {fd : FuncData} (F : Fun K "__init__" "Disk.__init__" s_Disk_init f fd) (G : Gi mg) (T : TDisk K CDisk) (C_is_between : ClK P w K mg base CX0 2 "is_between" 1 ["low", "high"] (spBet K)) :
    FnOk P w K mg base CX0 3 f fd ["self", "blocks"] (spDiskInit K CDisk) := by
  refine F.ok sc_Disk_init (fun vs H Q E h => ?_) (fun cdv A outer s H vs Q E hr h => ?_)
  · obtain ⟨_, _, _, rfl, _⟩ := h
    rfl
  · obtain ⟨d, dx, n, rfl, hd, hn1, hn2, k⟩ := h
    have hu := hu_of hr
    have nd := sc_Disk_init.nd
    obtain ⟨cl, n1, n2, n3, n4⟩ := T
    refine ⟨_, (pss_cons (ps_if (pt_not (pt_tru (K := K) (pe_clK C_is_between hr (by decide) (pa_cons (pv 1) pa_nil) (pk_cons pe_int (pk_cons (pe_gintE rfl G.MOST_BLOCKS) pk_nil))))) (pss_one (ps_dead)) pss_nil)
      (pss_cons (ps_fldA (K := K) (pv 0) (pe_op (op_mulA (K := K)) (pe_lst (pa_cons pe_int pa_nil)) (pv 1)))
      (pss_cons (ps_fldA (K := K) (pv 0) (pe_op (op_mulA (K := K)) (pe_lst (pa_cons pe_int pa_nil)) (pv 1)))
      (pss_cons (ps_fldA (K := K) (pv 0) (pe_lst pa_nil))
      (pss_one (ps_fldA (K := K) (pv 0) (pe_lst pa_nil))))))), ?_⟩
    repeat walk_at "s"
    refine ⟨_, [], .int n, 1, 128, rfl, .int _, ?_⟩
    repeat walk_at "s"
    rw [bet_iff.mpr ⟨by omega, by omega⟩]
    refine r_iteF rfl ?_
    repeat walk_at "s"
    refine r_newL (sz (Nat.le_of_ble_eq_true rfl)) (fun z1 H1 hz1 s1 hz11 => ?_)
    repeat walk_at "s"
    refine r_rep hz11 (by omega) (by simp; omega) (fun l1 H2 hl1 s2 hl12 => ?_)
    rw [rep_zeros] at hl12
    repeat walk_at "s"
    refine r_setAt (by walk_at "hp") cl n1 (Nat.le_of_ble_eq_true rfl) (fun H3 b3 hd3 => ?_)
    repeat walk_at "s"
    refine r_newL (sz (Nat.le_of_ble_eq_true rfl)) (fun z2 H4 hz2 s4 hz24 => ?_)
    repeat walk_at "s"
    refine r_rep hz24 (by omega) (by simp; omega) (fun l2 H5 hl2 s5 hl25 => ?_)
    rw [rep_zeros] at hl25
    repeat walk_at "s"
    refine r_setAt (by walk_at "hp") cl n2 (Nat.le_of_ble_eq_true rfl) (fun H6 b6 hd6 => ?_)
    repeat walk_at "s"
    refine r_newL (sz (Nat.le_of_ble_eq_true rfl)) (fun l3 H7 hl3 s7 hl37 => ?_)
    repeat walk_at "s"
    refine r_setAt (by walk_at "hp") cl n3 (Nat.le_of_ble_eq_true rfl) (fun H8 b8 hd8 => ?_)
    repeat walk_at "s"
    refine r_newL (sz (Nat.le_of_ble_eq_true rfl)) (fun l4 H9 hl4 s9 hl49 => ?_)
    repeat walk_at "s"
    refine r_setAt (by walk_at "hp") cl n4 (Nat.le_of_ble_eq_true rfl) (fun H10 b10 hd10 => ?_)
    have lvd : H d ≠ none := live_of hd
    have a1 : l1 ≠ d := by walk_at "ne"
    have a2 : l2 ≠ d := by walk_at "ne"
    have a3 : l3 ≠ d := by walk_at "ne"
    have a4 : l4 ≠ d := by walk_at "ne"
    have f1 : H10 l1 = some (.lst (List.replicate n (V.int 0))) := by walk_at "hp"
    have f2 : H10 l2 = some (.lst (List.replicate n (V.int 0))) := by walk_at "hp"
    have f3 : H10 l3 = some (.lst []) := by walk_at "hp"
    have f4 : H10 l4 = some (.lst []) := by walk_at "hp"
    have d12 : l1 ≠ l2 := by walk_at "ne"
    have d13 : l1 ≠ l3 := by walk_at "ne"
    have d14 : l1 ≠ l4 := by walk_at "ne"
    have d23 : l2 ≠ l3 := by walk_at "ne"
    have d24 : l2 ≠ l4 := by walk_at "ne"
    have d34 : l3 ≠ l4 := by walk_at "ne"
    refine k [l1, l2, l3, l4] H10 ?_ (by walk_at "bt") ⟨DOk.new hn1 hn2, dx, l1, l2, l3, l4, _, _, _, _, rfl, ?_, hd10, f1, f2, f3, f4, dn_zeros n, dn_zeros n, .nil, .nil⟩
    · intro t ht
      simp only [List.mem_cons, List.not_mem_nil, or_false] at ht
      rcases ht with rfl | rfl | rfl | rfl <;> walk_at "fr"
    · simp only [List.nodup_cons, List.mem_cons, List.not_mem_nil, or_false, not_or, not_false_eq_true, List.nodup_nil, and_true]
      exact ⟨⟨a1.symm, a2.symm, a3.symm, a4.symm⟩, ⟨d12, d13, d14⟩, ⟨d23, d24⟩, d34⟩
def spCheck (K : PySem.W.Frag) (CDisk : Addr) : Sp := fun vs H Q _ => ∃ (d : Addr) (fd : List Addr) (n m : Nat) (D : DM) (b : Int), vs = [.ref d, .int b] ∧ DiskAt K CDisk H d fd n m D ∧ 0 ≤ b ∧ b < n ∧ Q .non H
abbrev s_Disk_check_block : Stmt := inClass (top 22) 2
abbrev N_Disk_check_block : List Str := ["self", "block"]
theorem sc_Disk_check_block : FnScope N_Disk_check_block ["self", "block"] (defScope s_Disk_check_block) :=
  ⟨rfl, rfl, rfl, by decide +kernel, rfl, by decide +kernel, by decide +kernel⟩

theorem ok_Disk_check {f : Addr} {fd : FuncData} (F : Fun K "check_block" "Disk.check_block" s_Disk_check_block f fd) (B : Bl mg) (T : TDisk K CDisk) (C_is_between : ClK P w K mg base CX0 2 "is_between" 1 ["low", "high"] (spBet K)) :
    FnOk P w K mg base CX0 3 f fd ["self", "block"] (spCheck K CDisk) := by
  refine F.ok sc_Disk_check_block (fun vs H Q E h => ?_) (fun cdv A outer s H vs Q E hr h => ?_)
  · obtain ⟨_, _, _, _, _, _, rfl, _⟩ := h
    rfl
  · obtain ⟨d, fd, n, m, D, b, rfl, ⟨ok, dx, l1, l2, l3, l4, x1, x2, x3, x4, rfl, hnd, h0, h1, h2, h3, h4, v1, v2, v3, v4⟩, hb0, hb1, k⟩ := h
    have hu := hu_of hr
    have nd := sc_Disk_check_block.nd
    obtain ⟨cl, n1, n2, n3, n4⟩ := T
    refine ⟨_, (pss_one (ps_if (pt_not (pt_tru (K := K) (pe_clK C_is_between hr (by decide) (pa_cons (pv 1) pa_nil) (pk_cons pe_int (pk_cons (pe_op op_sub (pe_callB (call_lenA (K := K)) rfl B.len PySem.boot_len (pa_cons (pe_fldA (K := K) (pv 0)) pa_nil)) pe_int) pk_nil))))) (pss_one (ps_dead)) pss_nil)), ?_⟩
    repeat walk_at "s"
    have e : x1.length = n := by rw [v1.length, ok.fl]
    refine ⟨_, [], .int b, 0, _, rfl, .int _, ?_⟩
    rw [bet_iff.mpr ⟨hb0, by omega⟩]
    repeat walk_at "s"
    refine r_iteF rfl ?_
    repeat walk_at "s"
    exact k
def spRead (K : PySem.W.Frag) (CDisk : Addr) : Sp := fun vs H Q _ => ∃ (d : Addr) (fd : List Addr) (n m : Nat) (D : DM) (b : Int), vs = [.ref d, .int b] ∧ DiskAt K CDisk H d fd n m D ∧ 0 ≤ b ∧ b < n ∧
  ∀ v, Dn K [] H v (D.read b) → Q v H
theorem wr_inv {S : List Addr} {H : Hp} {v : V} {u : Int × PyData} (h : Dn K S H v (dWr u)) : ∃ p x, v = .ref p ∧ SqT K H p [.int u.1, x] ∧ Dn K S H x u.2 := by
  obtain ⟨p, xs, rfl, h1, h2⟩ := h.tup_inv
  obtain ⟨n, _, rfl, h3, h4⟩ := h2.cons_inv
  obtain ⟨x, _, rfl, h5, h6⟩ := h4.cons_inv
  obtain rfl := h6.nil_inv
  obtain rfl := h3.int_inv
  exact ⟨p, x, rfl, h1, h5⟩
theorem map_getG {α β : Type} {f : α → β} {l : List α} {i : Nat} {d : β} (h : (l.map f)[i]? = some d) : ∃ x, l[i]? = some x ∧ d = f x := by
  rw [List.getElem?_map] at h
  obtain ⟨x, h1, h2⟩ := Option.map_eq_some_iff.mp h
  exact ⟨x, h1, h2.symm⟩
theorem foldl_takeG {α β : Type} {f : β → α → β} {b : β} {l : List α} {i : Nat} {x : α} (h : l[i]? = some x) : (l.take (i + 1)).foldl f b = f ((l.take i).foldl f b) x := by
  rw [List.take_add_one, h, List.foldl_append]; rfl
abbrev s_Disk_read : Stmt := inClass (top 22) 3
abbrev N_Disk_read : List Str := ["self", "block", "newest", "place", "value"]
theorem sc_Disk_read : FnScope N_Disk_read ["self", "block"] (defScope s_Disk_read) :=
  ⟨rfl, rfl, rfl, by decide +kernel, rfl, by decide +kernel, by decide +kernel⟩

theorem ok_Disk_read {f : Addr} {fd : FuncData} (F : Fun K "read" "Disk.read" s_Disk_read f fd) (T : TDisk K CDisk) (M_Disk_check_block : C8.Met P w K mg base 3 CDisk "check_block" (spCheck K CDisk) []) :
    FnOk P w K mg base CX0 4 f fd ["self", "block"] (spRead K CDisk) := by
  refine F.ok sc_Disk_read (fun vs H Q E h => ?_) (fun cdv A outer s H vs Q E hr h => ?_)
  · obtain ⟨_, _, _, _, _, _, rfl, _⟩ := h
    rfl
  · obtain ⟨d, fd, n, m, D, b, rfl, hD, hb0, hb1, k⟩ := h
    obtain ⟨ok, dx, l1, l2, l3, l4, x1, x2, x3, x4, rfl, hnd, h0, h1, h2, h3, h4, v1, v2, v3, v4⟩ := id hD
    have hu := hu_of hr
    have nd := sc_Disk_read.nd
    obtain ⟨cl, n1, n2, n3, n4⟩ := T
    refine ⟨_, (pss_cons (ps_expr (C8.pe_mt M_Disk_check_block hr (by decide) (pv 0) (pa_cons (pv 1) pa_nil)))
      (pss_cons (ps_set (i := 2) nd rfl (by first | exact Or.inl rfl | exact Or.inr rfl) (pe_ix (ix_any (K := K)) (pe_fldA (K := K) (pv 0)) (pv 1) (fun _ _ => rfl)))
      (pss_cons (ps_for PassesOwn.never rfl (pi_lst (K := K) (pe_fldA (K := K) (pv 0))) (pg_tpl (K := K) rfl (pgs_cons (pg_name (i := 3) nd rfl (by first | exact Or.inl rfl | exact Or.inr rfl)) (pgs_cons (pg_name (i := 4) nd rfl (by first | exact Or.inl rfl | exact Or.inr rfl)) pgs_nil)))
      (pss_one (ps_if (pt_cmpR (op_eqA (K := K) hr.units) (pv 3) (pv 1) (nomark _)) (pss_one (ps_set (i := 2) nd rfl (by first | exact Or.inl rfl | exact Or.inr rfl) (pv 4))) pss_nil)))
      (pss_one (ps_ret (pv 2)))))), ?_⟩
    repeat walk_at "s"
    refine r_methAt h0 (by with_unfolding_all rfl) ?_
    repeat walk_at "s"
    refine ⟨d, _, n, m, D, b, rfl, hD, hb0, hb1, ?_⟩
    repeat walk_at "s"
    obtain ⟨bn, rfl⟩ := Int.eq_ofNat_of_zero_le hb0
    have e2 : x2.length = n := by rw [v2.length, ok.sl]
    have hbl : bn < x2.length := by omega
    refine r_ixL (.of h2) (atI_nat (List.getElem?_eq_getElem hbl)) ?_
    repeat walk_at "s"
    obtain ⟨dd, hdd, hdn⟩ := v2.get (List.getElem?_eq_getElem hbl)
    refine forL (.of h3) (fun i σ H' => ∃ v o3 o4, σ = [some (.ref d), some (.int bn), some v, o3, o4] ∧ H' = H ∧ Dn K [] H v (lastW (D.writes.take i) bn dd))
      ⟨_, _, _, rfl, rfl, hdn⟩ ?_ ?_ ?_
    · rintro i σ H' hi ⟨v, o3, o4, rfl, rfl, hv⟩
      exact .of h3
    · rintro i x σ H' hi ⟨v, o3, o4, rfl, rfl, hv⟩
      obtain ⟨du, hdu, hu2⟩ := v3.get hi
      obtain ⟨u, hu1, rfl⟩ := map_getG hdu
      obtain ⟨p, y, rfl, hp, hy⟩ := wr_inv hu2
      have step : lastW (D.writes.take (i + 1)) bn dd = if u.1 = bn then u.2 else lastW (D.writes.take i) bn dd := foldl_takeG hu1
      repeat walk_at "s"
      refine r_ite (fun e => ?_) (fun e => ?_)
      · repeat walk_at "s"
        refine ⟨_, _, _, rfl, rfl, ?_⟩
        rw [step, if_pos e]; exact hy
      · repeat walk_at "s"
        refine ⟨_, _, _, rfl, rfl, ?_⟩
        rw [step, if_neg e]; exact hv
    · rintro σ H' ⟨v, o3, o4, rfl, rfl, hv⟩
      have e3 : x3.length = D.writes.length := by rw [v3.length, List.length_map]
      rw [e3, List.take_length] at hv
      repeat walk_at "s"
      refine k v ?_
      have e4 : dd = D.safe.getD ((bn : Int)).toNat .none := by
        rw [List.getD_eq_getElem?_getD, Int.toNat_natCast, hdd]; rfl
      unfold DM.read
      rw [← e4]; exact hv
end
end L02

open PySem L2 PyProof.Rows J

namespace L02
section
variable {P : Program} {w : World} {K : PySem.W.Frag} {mg : Str → Option Value} {base : Heap} {CDisk : Addr}
def spWrite (K : PySem.W.Frag) (CDisk : Addr) : Sp := fun vs H Q _ => ∃ (d : Addr) (fd : List Addr) (n m : Nat) (D : DM) (b : Int) (v : V) (S : List Addr) (dv : PyData), vs = [.ref d, .int b, v] ∧ DiskAt K CDisk H d fd n m D ∧ m < 1000000 ∧ 0 ≤ b ∧ b < n ∧
  Dn K S H v dv ∧ blockB dv = true ∧ ∀ H', But fd H H' → DiskAt K CDisk H' d fd n (m + 1) (D.write b dv) → Q .non H'
abbrev s_Disk_write : Stmt := inClass (top 22) 4
abbrev N_Disk_write : List Str := ["self", "block", "value"]
theorem sc_Disk_write : FnScope N_Disk_write ["self", "block", "value"] (defScope s_Disk_write) :=
  ⟨rfl, rfl, rfl, by decide +kernel, rfl, by decide +kernel, by decide +kernel⟩

theorem ok_Disk_write {f : Addr} {fd : FuncData} (F : Fun K "write" "Disk.write" s_Disk_write f fd) (T : TDisk K CDisk) (M_Disk_check_block : C8.Met P w K mg base 3 CDisk "check_block" (spCheck K CDisk) [])
    (D_is_value : C8.Cal P w K mg base 11 "is_value" (spVal K 9) [.int 0]) :
    FnOk P w K mg base CX0 12 f fd ["self", "block", "value"] (spWrite K CDisk) := by
  refine F.ok sc_Disk_write (fun vs H Q E h => ?_) (fun cdv A outer s H vs Q E hr h => ?_)
  · obtain ⟨_, _, _, _, _, _, _, _, _, rfl, _⟩ := h
    rfl
  · obtain ⟨d, fd, n, m, D, b, v, S, dv, rfl, hD, hm, hb0, hb1, hv, hbl, k⟩ := h
    obtain ⟨ok, dx, l1, l2, l3, l4, x1, x2, x3, x4, rfl, hnd, h0, h1, h2, h3, h4, v1, v2, v3, v4⟩ := id hD
    have hu := hu_of hr
    have nd := sc_Disk_write.nd
    obtain ⟨cl, n1, n2, n3, n4⟩ := T
    simp only [List.nodup_cons, List.mem_cons, List.not_mem_nil, or_false, not_or, not_false_eq_true, List.nodup_nil, and_true] at hnd
    obtain ⟨⟨a1, a2, a3, a4⟩, ⟨a12, a13, a14⟩, ⟨a23, a24⟩, a34⟩ := hnd
    have hval := blockB_val hbl
    have hsl := blockB_slim hbl
    have nlv := blockB_nol hbl
    have wl : x3.length ≤ m := by rw [v3.length, List.length_map]; exact Nat.le_trans ok.wl ok.dl
    have dl : x4.length ≤ m := by rw [v4.length, List.length_map]; exact ok.dl
    refine ⟨_, (pss_cons (ps_expr (C8.pe_mt M_Disk_check_block hr (by decide) (pv 0) (pa_cons (pv 1) pa_nil)))
      (pss_cons (ps_if (pt_not (pt_tru (K := K) (pe_cld D_is_value hr (by decide) (pa_cons (pv 2) pa_nil)))) (pss_one (ps_dead)) pss_nil)
      (pss_cons (ps_expr (pe_bm PySem.F.plainAttrs_list PySem.F.slot_list_append PySem.F.type_list_append mt_append (pe_fldA (K := K) (pv 0)) (pa_cons (pe_tup (pa_cons (pv 1) (pa_cons (pv 2) pa_nil))) pa_nil)))
      (pss_one (ps_expr (pe_bm PySem.F.plainAttrs_list PySem.F.slot_list_append PySem.F.type_list_append mt_append (pe_fldA (K := K) (pv 0)) (pa_cons (pe_tup (pa_cons pe_str (pa_cons (pv 1) (pa_cons (pv 2) pa_nil)))) pa_nil))))))), ?_⟩
    repeat walk_at "s"
    refine r_methAt h0 (by with_unfolding_all rfl) ?_
    repeat walk_at "s"
    refine ⟨d, _, n, m, D, b, rfl, hD, hb0, hb1, ?_⟩
    repeat walk_at "s"
    refine ⟨v, S, dv, 0, rfl, hv, hsl, by decide, by decide, fun H1 s1 => ?_⟩
    rw [hval]
    repeat walk_at "s"
    refine r_iteF rfl ?_
    repeat walk_at "s"
    refine r_newT (sz (Nat.le_of_ble_eq_true rfl)) (fun T1 H2 hT1 s2 hT12 => ?_)
    repeat walk_at "s"
    have h32 : H2 l3 = some (.lst x3) := by walk_at "hp"
    refine r_app h32 (szl (by omega)) (fun H3 b3 hl33 => ?_)
    repeat walk_at "s"
    refine r_newT (sz (Nat.le_of_ble_eq_true rfl)) (fun T2 H4 hT2 s4 hT24 => ?_)
    repeat walk_at "s"
    have h44 : H4 l4 = some (.lst x4) := by walk_at "hp"
    refine r_app h44 (szl (by omega)) (fun H5 b5 hl45 => ?_)
    repeat walk_at "s"
    have v2' : Dn K [] H2 v dv := hv.nlb nlv ((But.of_same (S := []) s1).trans (But.of_same s2))
    have v5' : Dn K [] H5 v dv := v2'.nlb nlv (show But [l3, l4] H2 H5 by walk_at "bt")
    have t15 : SqT K H5 T1 [.int b, v] := by walk_at "sq"
    have t25 : SqT K H5 T2 [.str "write", .int b, v] := by walk_at "sq"
    have f0 : H5 d = some (.ins CDisk dx (diskF l1 l2 l3 l4)) := by walk_at "hp"
    have f1 : H5 l1 = some (.lst x1) := by walk_at "hp"
    have f2 : H5 l2 = some (.lst x2) := by walk_at "hp"
    have f3 : H5 l3 = some (.lst (x3 ++ [.ref T1])) := by walk_at "hp"
    have bAll : But [d, l1, l2, l3, l4] H H5 := by walk_at "bt"
    refine k H5 bAll ⟨ok.write hb0 hb1 hbl, dx, l1, l2, l3, l4, _, _, _, _, rfl, ?_, f0, f1, f2, f3, hl45, v1.nlb ok.nl1 bAll, v2.nlb ok.nl2 bAll, ?_, ?_⟩
    · simp only [List.nodup_cons, List.mem_cons, List.not_mem_nil, or_false, not_or, not_false_eq_true, List.nodup_nil, and_true]
      exact ⟨⟨a1, a2, a3, a4⟩, ⟨a12, a13, a14⟩, ⟨a23, a24⟩, a34⟩
    · have e : (D.write b dv).writes.map dWr = D.writes.map dWr ++ [dWr (b, dv)] := by simp [DM.write]
      rw [e]
      exact (v3.nlb ok.nl3 bAll).snoc (.tup t15 (.cons (.int _) (.one v5')))
    · have e : (D.write b dv).deeds.map dEv = D.deeds.map dEv ++ [dEv (some (b, dv))] := by simp [DM.write]
      rw [e]
      exact (v4.nlb ok.nl4 bAll).snoc (.tup t25 (.cons (.str _) (.cons (.int _) (.one v5'))))
def spFlush (K : PySem.W.Frag) (CDisk : Addr) : Sp := fun vs H Q _ => ∃ (d : Addr) (fd : List Addr) (n m : Nat) (D : DM), vs = [.ref d] ∧ DiskAt K CDisk H d fd n m D ∧ m < 1000000 ∧
  ∀ H', But fd H H' → DiskAt K CDisk H' d fd n (m + 1) D.flush → Q .non H'
theorem DnAll.set {S : List Addr} {H : Hp} : ∀ {xs : List V} {ds : List PyData} {v : V} {d : PyData} (i : Nat), DnAll K S H xs ds → Dn K S H v d → DnAll K S H (xs.set i v) (ds.set i d)
  | _, _, _, _, _, .nil, _ => .nil
  | _, _, _, _, 0, .cons _ t, h => .cons h t
  | _, _, _, _, i + 1, .cons h0 t, h => .cons h0 (DnAll.set i t h)
theorem noLs_set {xs : List PyData} {i : Nat} {d : PyData} (h : noLs xs = true) (hd : noL d = true) : noLs (xs.set i d) = true :=
  noLs_all.mpr fun x hx => by
    rcases List.mem_or_eq_of_mem_set hx with hx | hx
    · exact noLs_all.mp h x hx
    · rw [hx]; exact hd
theorem ixN_nat {n i : Nat} (h : i < n) : ixN n (i : Int) = some i := by
  simp [ixN, h]
theorem r_clear {H : Hp} {Q : VK} {l : Addr} {xs : List V} (h : H l = some (.lst xs)) (k : ∀ H', But [l] H H' → H' l = some (.lst []) → Q .non H') : rClear (.ref l) [] H Q :=
  ⟨l, xs, rfl, rfl, h, k _ (But.write h (fun z => z) (by simp)) upd_same⟩
abbrev s_Disk_flush : Stmt := inClass (top 22) 5
abbrev N_Disk_flush : List Str := ["self", "block", "value"]
theorem sc_Disk_flush : FnScope N_Disk_flush ["self"] (defScope s_Disk_flush) :=
  ⟨rfl, rfl, rfl, by decide +kernel, rfl, by decide +kernel, by decide +kernel⟩

theorem ok_Disk_flush {f : Addr} {fd : FuncData} (F : Fun K "flush" "Disk.flush" s_Disk_flush f fd) (T : TDisk K CDisk) :
    FnOk P w K mg base CX0 1 f fd ["self"] (spFlush K CDisk) := by
  refine F.ok sc_Disk_flush (fun vs H Q E h => ?_) (fun cdv A outer s H vs Q E hr h => ?_)
  · obtain ⟨_, _, _, _, _, rfl, _⟩ := h
    rfl
  · obtain ⟨d, fd, n, m, D, rfl, hD, hm, k⟩ := h
    obtain ⟨ok, dx, l1, l2, l3, l4, x1, x2, x3, x4, rfl, hnd, h0, h1, h2, h3, h4, v1, v2, v3, v4⟩ := id hD
    have hu := hu_of hr
    have nd := sc_Disk_flush.nd
    obtain ⟨cl, n1, n2, n3, n4⟩ := T
    simp only [List.nodup_cons, List.mem_cons, List.not_mem_nil, or_false, not_or, not_false_eq_true, List.nodup_nil, and_true] at hnd
    obtain ⟨⟨a1, a2, a3, a4⟩, ⟨a12, a13, a14⟩, ⟨a23, a24⟩, a34⟩ := hnd
    have dl : x4.length ≤ m := by rw [v4.length, List.length_map]; exact ok.dl
    refine ⟨_, (pss_cons (ps_for PassesOwn.never rfl (pi_lst (K := K) (pe_fldA (K := K) (pv 0))) (pg_tpl (K := K) rfl (pgs_cons (pg_name (i := 1) nd rfl (by first | exact Or.inl rfl | exact Or.inr rfl)) (pgs_cons (pg_name (i := 2) nd rfl (by first | exact Or.inl rfl | exact Or.inr rfl)) pgs_nil)))
      (pss_one (ps_asg (pv 2) (pg_sub (pe_fldA (K := K) (pv 0)) (pv 1) set_list))))
      (pss_cons (ps_expr (pe_bm0 PySem.F.plainAttrs_list PySem.F.slot_list_clear PySem.F.type_list_clear mt_clear (pe_fldA (K := K) (pv 0))))
      (pss_one (ps_expr (pe_bm PySem.F.plainAttrs_list PySem.F.slot_list_append PySem.F.type_list_append mt_append (pe_fldA (K := K) (pv 0)) (pa_cons (pe_tup (pa_cons pe_str pa_nil)) pa_nil)))))), ?_⟩
    repeat walk_at "s"
    have nlw : ∀ u ∈ D.writes, noL u.2 = true := fun u hu => blockB_nol (ok.wv u hu).2.2
    refine forL (.of h3) (fun i σ H' => ∃ o1 o2 ys, σ = [some (.ref d), o1, o2] ∧ But [l2] H H' ∧ H' l2 = some (.lst ys) ∧ DnAll K [] H' ys (putAll (D.writes.take i) D.safe))
      ⟨_, _, _, rfl, .refl, h2, v2⟩ ?_ ?_ ?_
    · rintro i σ H1 hi ⟨o1, o2, ys, rfl, b1, hl2, hys⟩
      exact .of (b1.at h3 (by walk_at "ni"))
    · rintro i x σ H1 hi ⟨o1, o2, ys, rfl, b1, hl2, hys⟩
      obtain ⟨du, hdu, hu2⟩ := v3.get hi
      obtain ⟨u, hu1, rfl⟩ := map_getG hdu
      obtain ⟨p, y, rfl, hp, hy⟩ := wr_inv hu2
      have hum := List.mem_of_getElem? hu1
      obtain ⟨hb0, hb1, hvv⟩ := ok.wv u hum
      obtain ⟨bn, hbn⟩ := Int.eq_ofNat_of_zero_le hb0
      have step : putAll (D.writes.take (i + 1)) D.safe = (putAll (D.writes.take i) D.safe).set u.1.toNat u.2 := foldl_takeG hu1
      have yl : ys.length = n := by rw [hys.length, putAll_length, ok.sl]
      repeat walk_at "s"
      rw [hbn]
      refine s_lst hl2 (ixN_nat (by omega)) (fun H2 b2 hl22 => ?_)
      refine ⟨_, _, _, rfl, b1.trans b2, hl22, ?_⟩
      rw [step, hbn, Int.toNat_natCast]
      have nls : noLs (putAll (D.writes.take i) D.safe) = true := noLs_all.mpr fun z hz => by
        rcases putAll_mem hz with hz | ⟨q, hq, rfl⟩
        · exact blockB_nol (ok.sv z hz)
        · exact nlw q (List.mem_of_mem_take hq)
      exact DnAll.set bn (hys.nlb nls b2) (hy.nlb (nlw u hum) (b1.trans b2))
    · rintro σ H1 ⟨o1, o2, ys, rfl, b1, hl2, hys⟩
      have e3 : x3.length = D.writes.length := by rw [v3.length, List.length_map]
      rw [e3, List.take_length] at hys
      repeat walk_at "s"
      have h31 : H1 l3 = some (.lst x3) := by walk_at "hp"
      refine r_clear h31 (fun H2 b2 hl32 => ?_)
      repeat walk_at "s"
      refine r_newT (sz (Nat.le_of_ble_eq_true rfl)) (fun T2 H3 hT2 s3 hT23 => ?_)
      repeat walk_at "s"
      have h43 : H3 l4 = some (.lst x4) := by walk_at "hp"
      refine r_app h43 (szl (by omega)) (fun H4 b4 hl44 => ?_)
      repeat walk_at "s"
      have t25 : SqT K H4 T2 [.str "flush"] := by walk_at "sq"
      have f0 : H4 d = some (.ins CDisk dx (diskF l1 l2 l3 l4)) := by walk_at "hp"
      have f1 : H4 l1 = some (.lst x1) := by walk_at "hp"
      have f2 : H4 l2 = some (.lst ys) := by walk_at "hp"
      have f3 : H4 l3 = some (.lst []) := by walk_at "hp"
      have b14 : But [l3, l4] H1 H4 := by walk_at "bt"
      have bAll : But [d, l1, l2, l3, l4] H H4 := (b1.sub (by simp)).trans (b14.sub (by simp))
      have okf := ok.flush
      refine k H4 bAll ⟨okf, dx, l1, l2, l3, l4, _, _, _, _, rfl, ?_, f0, f1, f2, f3, hl44, v1.nlb ok.nl1 bAll, hys.nlb okf.nl2 b14, .nil, ?_⟩
      · simp only [List.nodup_cons, List.mem_cons, List.not_mem_nil, or_false, not_or, not_false_eq_true, List.nodup_nil, and_true]
        exact ⟨⟨a1, a2, a3, a4⟩, ⟨a12, a13, a14⟩, ⟨a23, a24⟩, a34⟩
      · have e : D.flush.deeds.map dEv = D.deeds.map dEv ++ [dEv none] := by simp [DM.flush]
        rw [e]
        exact (v4.nlb ok.nl4 bAll).snoc (.tup t25 (.one (.str _)))
def spCopyOf (K : PySem.W.Frag) (CDisk : Addr) (g : DM → List PyData) : Sp := fun vs H Q _ => ∃ (d : Addr) (fd : List Addr) (n m : Nat) (D : DM), vs = [.ref d] ∧ DiskAt K CDisk H d fd n m D ∧
  ∀ l xs H', H l = none → Same H H' → H' l = some (.lst xs) → DnAll K [] H' xs (g D) → Q (.ref l) H'
abbrev s_Disk_durable : Stmt := inClass (top 22) 7
abbrev N_Disk_durable : List Str := ["self"]
theorem sc_Disk_durable : FnScope N_Disk_durable ["self"] (defScope s_Disk_durable) :=
  ⟨rfl, rfl, rfl, by decide +kernel, rfl, by decide +kernel, by decide +kernel⟩

theorem ok_Disk_durable {f : Addr} {fd : FuncData} (F : Fun K "durable" "Disk.durable" s_Disk_durable f fd) (B : Bl mg) (T : TDisk K CDisk) :
    FnOk P w K mg base CX0 1 f fd ["self"] (spCopyOf K CDisk DM.safe) := by
  refine F.ok sc_Disk_durable (fun vs H Q E h => ?_) (fun cdv A outer s H vs Q E hr h => ?_)
  · obtain ⟨_, _, _, _, _, rfl, _⟩ := h
    rfl
  · obtain ⟨d, fd, n, m, D, rfl, ⟨ok, dx, l1, l2, l3, l4, x1, x2, x3, x4, rfl, hnd, h0, h1, h2, h3, h4, v1, v2, v3, v4⟩, k⟩ := h
    have nd := sc_Disk_durable.nd
    obtain ⟨cl, n1, n2, n3, n4⟩ := T
    refine ⟨_, (pss_one (ps_ret (pe_callTy (call_listA (K := K)) rfl B.list (by decide +kernel) (pa_cons (pe_fldA (K := K) (pv 0)) pa_nil)))), ?_⟩
    repeat walk_at "s"
    refine r_listL (.of h2) (fun l H1 hl s1 hl1 => ?_)
    exact k l x2 H1 hl s1 hl1 (v2.same s1)
abbrev s_Disk_events : Stmt := inClass (top 22) 8
abbrev N_Disk_events : List Str := ["self"]
theorem sc_Disk_events : FnScope N_Disk_events ["self"] (defScope s_Disk_events) :=
  ⟨rfl, rfl, rfl, by decide +kernel, rfl, by decide +kernel, by decide +kernel⟩

theorem ok_Disk_events {f : Addr} {fd : FuncData} (F : Fun K "events" "Disk.events" s_Disk_events f fd) (B : Bl mg) (T : TDisk K CDisk) :
    FnOk P w K mg base CX0 1 f fd ["self"] (spCopyOf K CDisk fun D => D.deeds.map dEv) := by
  refine F.ok sc_Disk_events (fun vs H Q E h => ?_) (fun cdv A outer s H vs Q E hr h => ?_)
  · obtain ⟨_, _, _, _, _, rfl, _⟩ := h
    rfl
  · obtain ⟨d, fd, n, m, D, rfl, ⟨ok, dx, l1, l2, l3, l4, x1, x2, x3, x4, rfl, hnd, h0, h1, h2, h3, h4, v1, v2, v3, v4⟩, k⟩ := h
    have nd := sc_Disk_events.nd
    obtain ⟨cl, n1, n2, n3, n4⟩ := T
    refine ⟨_, (pss_one (ps_ret (pe_callTy (call_listA (K := K)) rfl B.list (by decide +kernel) (pa_cons (pe_fldA (K := K) (pv 0)) pa_nil)))), ?_⟩
    repeat walk_at "s"
    refine r_listL (.of h4) (fun l H1 hl s1 hl1 => ?_)
    exact k l x4 H1 hl s1 hl1 (v4.same s1)
end
end L02

open PySem L2 PyProof.Rows J

namespace L02
/-! ### the exceptions -/
def foWhy : List V → Option (List (Str × V))
  | [y] => some [("why", y)]
  | _ => none
section
variable {P : Program} {w : World} {K : PySem.W.Frag} {mg : Str → Option Value} {base : Heap} {CDisk CBB CBV CBC : Addr}
abbrev s_LogError_init : Stmt := inClass (top 1) 0
abbrev N_LogError_init : List Str := ["self", "why"]
theorem sc_LogError_init : FnScope N_LogError_init ["self", "why"] (defScope s_LogError_init) :=
  ⟨rfl, rfl, rfl, by decide +kernel, rfl, by decide +kernel, by decide +kernel⟩

theorem ok_LogError_init {f : Addr} {fd : FuncData} {dvs : List V} {kws : List (Str × V)} (F : FunD K "__init__" "LogError.__init__" (defArgs s_LogError_init) (defBody s_LogError_init) (defScope s_LogError_init) dvs kws f fd) (B : Bl mg)
    (vV : PySem.W.findCls K (.type "ValueError") (.type "type") "__init__" = some (.val (.builtin "ValueError.__init__"))) :
    FnOk P w K mg base CX0 1 f fd ["self", "why"] (spX K ["why"] foWhy) := by
  refine F.ok sc_LogError_init (fun vs H Q E h => ?_) (fun cdv A outer s H vs Q E hr h => ?_)
  · obtain ⟨a, C, ws, fs, rfl, hf, _⟩ := h
    match ws, hf with
    | [y], _ => rfl
  · obtain ⟨a, C, ws, fs, rfl, hf, T, hn, ha, k⟩ := h
    obtain ⟨y, rfl, rfl⟩ : ∃ y, ws = [y] ∧ fs = [(("why" : Str), y)] := by
      match ws, hf with
      | [y], hf => exact ⟨y, rfl, (Option.some.inj hf).symm⟩
    have nd := sc_LogError_init.nd
    refine ⟨_, (pss_cons (ps_expr (pe_veinit rfl B.ValueError vV (pa_cons (pv 0) (pa_cons (pv 1) pa_nil))))
      (pss_one (ps_ost (pv 0) (pv 1)))), ?_⟩
    repeat walk_at "s"
    refine ⟨a, C, [y], rfl, Nat.le_of_ble_eq_true rfl, T, ha, ?_⟩
    repeat walk_at "s"
    refine ⟨a, C, rfl, T, hn "why" List.mem_cons_self, .inl ⟨ha, fun dx hd hda => ?_⟩⟩
    refine k dx _ hd hda upd_same ?_ (fun b hb hb2 => ?_)
    · rw [upd_ne hda]; exact upd_same
    · rw [upd_ne hb, upd_ne hb2]
abbrev s_BadBlock_init : Stmt := inClass (top 3) 0
abbrev N_BadBlock_init : List Str := ["self", "block"]
theorem sc_BadBlock_init : FnScope N_BadBlock_init ["self", "block"] (defScope s_BadBlock_init) :=
  ⟨rfl, rfl, rfl, by decide +kernel, rfl, by decide +kernel, by decide +kernel⟩
theorem ok_BadBlock_init {f : Addr} {fd : FuncData} (F : Fun K "__init__" "BadBlock.__init__" s_BadBlock_init f fd) (N_LogError_init : CFn P w K mg base CX0 1 "LogError" "__init__" (spX K ["why"] foWhy)) :
    FnOk P w K mg base CX0 2 f fd ["self", "block"] (spX K ["why", "block"] (fo1 "block" "block")) := by
  refine F.ok sc_BadBlock_init (fun vs H Q E h => ?_) (fun cdv A outer s H vs Q E hr h => ?_)
  · obtain ⟨a, C, ws, fs, rfl, hf, _⟩ := h
    match ws, hf with
    | [x], _ => rfl
  · obtain ⟨a, C, ws, fs, rfl, hf, T, hn, ha, k⟩ := h
    obtain ⟨x, rfl, rfl⟩ : ∃ x, ws = [x] ∧ fs = [(("block" : Str), x), ("why", .str "block")] := by
      match ws, hf with
      | [x], hf => exact ⟨x, rfl, (Option.some.inj hf).symm⟩
    have nd := sc_BadBlock_init.nd
    refine ⟨_, (pss_cons (ps_expr (pe_cfn (E := fun _ => E0) N_LogError_init hr (by decide) pass00 (pa_cons (pv 0) (pa_cons pe_str pa_nil))))
      (pss_one (ps_ost (pv 0) (pv 1)))), ?_⟩
    repeat walk_at "s"
    refine ⟨a, C, [.str "block"], _, rfl, rfl, T, fun n h => hn n (by rw [List.mem_singleton.mp h]; exact List.mem_cons_self), ha, fun dx H1 hd hda h1 h2 h3 => ?_⟩
    repeat walk_at "s"
    refine ⟨a, C, rfl, T, hn "block" (by simp), .inr ⟨dx, _, h1, h2, Nat.le_of_ble_eq_true rfl, ?_⟩⟩
    refine k dx _ hd hda ?_ upd_same (fun b hb hb2 => ?_)
    · rw [upd_ne (Ne.symm hda)]; exact h1
    · rw [upd_ne hb2, h3 b hb hb2]

abbrev s_BadCount_init : Stmt := inClass (top 5) 0
abbrev N_BadCount_init : List Str := ["self", "count"]
theorem sc_BadCount_init : FnScope N_BadCount_init ["self", "count"] (defScope s_BadCount_init) :=
  ⟨rfl, rfl, rfl, by decide +kernel, rfl, by decide +kernel, by decide +kernel⟩
theorem ok_BadCount_init {f : Addr} {fd : FuncData} (F : Fun K "__init__" "BadCount.__init__" s_BadCount_init f fd) (N_LogError_init : CFn P w K mg base CX0 1 "LogError" "__init__" (spX K ["why"] foWhy)) :
    FnOk P w K mg base CX0 2 f fd ["self", "count"] (spX K ["why", "count"] (fo1 "count" "count")) := by
  refine F.ok sc_BadCount_init (fun vs H Q E h => ?_) (fun cdv A outer s H vs Q E hr h => ?_)
  · obtain ⟨a, C, ws, fs, rfl, hf, _⟩ := h
    match ws, hf with
    | [x], _ => rfl
  · obtain ⟨a, C, ws, fs, rfl, hf, T, hn, ha, k⟩ := h
    obtain ⟨x, rfl, rfl⟩ : ∃ x, ws = [x] ∧ fs = [(("count" : Str), x), ("why", .str "count")] := by
      match ws, hf with
      | [x], hf => exact ⟨x, rfl, (Option.some.inj hf).symm⟩
    have nd := sc_BadCount_init.nd
    refine ⟨_, (pss_cons (ps_expr (pe_cfn (E := fun _ => E0) N_LogError_init hr (by decide) pass00 (pa_cons (pv 0) (pa_cons pe_str pa_nil))))
      (pss_one (ps_ost (pv 0) (pv 1)))), ?_⟩
    repeat walk_at "s"
    refine ⟨a, C, [.str "count"], _, rfl, rfl, T, fun n h => hn n (by rw [List.mem_singleton.mp h]; exact List.mem_cons_self), ha, fun dx H1 hd hda h1 h2 h3 => ?_⟩
    repeat walk_at "s"
    refine ⟨a, C, rfl, T, hn "count" (by simp), .inr ⟨dx, _, h1, h2, Nat.le_of_ble_eq_true rfl, ?_⟩⟩
    refine k dx _ hd hda ?_ upd_same (fun b hb hb2 => ?_)
    · rw [upd_ne (Ne.symm hda)]; exact h1
    · rw [upd_ne hb2, h3 b hb hb2]

/-- an error of the class at C is raised, its fields fs -/
def Raised (C : Addr) (fs : List (Str × V)) (H : Hp) (E : XK) : Prop := ∀ dd H', H dd = none → Same H H' → H' dd = some (.xd fs) → E (.ref C) (some dd) H'
theorem fn_or {CX : CXT} {k : Nat} {f : Addr} {fd : FuncData} {ps : List Str} {sp sp' : Sp} (F : FnOk P w K mg base CX k f fd ps sp) (F' : FnOk P w K mg base CX k f fd ps sp') : FnOk P w K mg base CX k f fd ps (fun vs H Q E => sp vs H Q E ∨ sp' vs H Q E) :=
  ⟨fun vs H Q E h => h.elim (F.len vs H Q E) (F'.len vs H Q E), fun A outer s H args us vs Q E hr e0 hb r h => h.elim (F.run A outer s H args us vs Q E hr e0 hb r) (F'.run A outer s H args us vs Q E hr e0 hb r)⟩
theorem fn_mono {CX : CXT} {k k' : Nat} {f : Addr} {fd : FuncData} {ps : List Str} {sp : Sp} (F : FnOk P w K mg base CX k f fd ps sp) (h : k ≤ k') : FnOk P w K mg base CX k' f fd ps sp := ⟨F.len, fun A outer s H args us vs Q E hr => F.run A outer s H args us vs Q E (hr.mono h)⟩
/-! ### is_integer, is_between of odd values -/
def spIsIntO (K : PySem.W.Frag) : Sp := fun vs H Q _ => ∃ x S d, vs = [x] ∧ OdV K S H x d ∧ Q (.bl (intB d)) H
theorem ok_is_integerO {f : Addr} {fd : FuncData} (F : Fun K "is_integer" "is_integer" s_is_integer f fd) (B : Bl mg) :
    FnOk P w K mg base CX0 1 f fd ["value"] (spIsIntO K) := by
  refine F.ok sc_is_integer (fun vs H Q E h => ?_) (fun cdv A outer s H vs Q E hr h => ?_)
  · obtain ⟨_, _, _, rfl, _⟩ := h
    rfl
  · obtain ⟨x, S, d, rfl, hx, k⟩ := h
    have hu := hu_of hr
    have nd := sc_is_integer.nd
    refine ⟨_, (pss_one (ps_ret (pe_and (pe_callB (call_isiA (K := K)) rfl B.isinstance (by decide +kernel) (pa_cons (pv 0) (pa_cons (pe_tyN (T := "int") rfl B.int (by decide +kernel)) pa_nil))) (pe_one (pe_not (pe_callB (call_isiA (K := K)) rfl B.isinstance (by decide +kernel) (pa_cons (pv 0) (pa_cons (pe_tyN (T := "bool") rfl B.bool (by decide +kernel)) pa_nil)))))))), ?_⟩
    repeat walk_at "s"
    refine od_isInt hx ?_
    repeat walk_at "s"
    refine r_iteB (fun e => ?_) (fun e => ?_)
    · repeat walk_at "s"
      refine od_isBool hx ?_
      repeat walk_at "s"
      cases d <;> first | exact k | (simp [isIntD] at e; done)
    · cases d <;> first | exact k | (simp [isIntD] at e; done)
def spBetO (K : PySem.W.Frag) : Sp := fun vs H Q _ => ∃ x S d lo hi, vs = [x, .int lo, .int hi] ∧ OdV K S H x d ∧ Q (.bl (betB d lo hi)) H
theorem ok_is_betweenO {f : Addr} {fd : FuncData} (F : Fun K "is_between" "is_between" s_is_between f fd) (C_is_integer : Cl P w K mg base CX0 1 "is_integer" (spIsIntO K)) :
    FnOk P w K mg base CX0 2 f fd ["value", "low", "high"] (spBetO K) := by
  refine F.ok sc_is_between (fun vs H Q E h => ?_) (fun cdv A outer s H vs Q E hr h => ?_)
  · obtain ⟨_, _, _, _, _, rfl, _⟩ := h
    rfl
  · obtain ⟨x, S, d, lo, hi, rfl, hx, k⟩ := h
    have hu := hu_of hr
    have nd := sc_is_between.nd
    refine ⟨_, (pss_one (ps_ret (pe_and (pe_cl (E := fun _ => E0) C_is_integer hr (by decide) pass00 (pa_cons (pv 0) pa_nil)) (pe_one (pe_chain op_le op_le (pv 1) (pv 0) (pv 2)))))), ?_⟩
    repeat walk_at "s"
    refine ⟨x, S, d, rfl, hx, ?_⟩
    repeat walk_at "s"
    refine r_iteB (fun e => ?_) (fun e => ?_)
    · obtain ⟨i, rfl⟩ : ∃ i, d = .int i := by
        cases d <;> first | exact ⟨_, rfl⟩ | (simp [intB] at e; done)
      obtain rfl := hx.int_inv
      repeat walk_at "s"
      refine r_ite (fun h1 => ?_) (fun h1 => ?_)
      · repeat walk_at "s"
        have e2 : betB (.int i) lo hi = decide (i ≤ hi) := by simp [betB, h1]
        rw [e2] at k
        exact k
      · have e2 : betB (.int i) lo hi = false := by simp [betB, h1]
        rw [e2] at k
        exact k
    · have e2 : betB d lo hi = false := by
        cases d <;> first | rfl | (simp [intB] at e; done)
      rw [e2] at k
      exact k
/-! ### disks: what is refused -/
def blockF (x : V) : List (Str × V) := [("block", x), ("why", .str "block")]
def countF (x : V) : List (Str × V) := [("count", x), ("why", .str "count")]
abbrev XErr (P : Program) (w : World) (K : PySem.W.Frag) (mg : Str → Option Value) (base : Heap) (x f why : Str) (C : Addr) : Prop := Oex P w K mg base 2 x C (spX K ["why", f] (fo1 f why))
def spCheckF (K : PySem.W.Frag) (CDisk CBB : Addr) : Sp := fun vs H _ E => ∃ (d : Addr) (fd : List Addr) (n m : Nat) (D : DM) (x : V) (S : List Addr) (dx : PyData), vs = [.ref d, x] ∧ DiskAt K CDisk H d fd n m D ∧ OdV K S H x dx ∧ betB dx 0 ((n : Int) - 1) = false ∧ Raised CBB (blockF x) H E
theorem ok_Disk_checkF {f : Addr} {fd : FuncData} (F : Fun K "check_block" "Disk.check_block" s_Disk_check_block f fd) (B : Bl mg) (T : TDisk K CDisk) (C_is_between : ClK P w K mg base CX0 2 "is_between" 1 ["low", "high"] (spBetO K)) (X_BadBlock : XErr P w K mg base "BadBlock" "block" "block" CBB)
    (XN : ∀ n ∈ (["why", "block"] : List Str), PySem.W.findIn K (.ref CBB) n = some none) :
    FnOk P w K mg base (L2.CX P w) 4 f fd ["self", "block"] (spCheckF K CDisk CBB) := by
  refine F.okX sc_Disk_check_block (fun vs H Q E h => ?_) (fun cdv A outer s H vs Q E hr h => ?_)
  · obtain ⟨_, _, _, _, _, _, _, _, rfl, _⟩ := h
    rfl
  · obtain ⟨d, fd, n, m, D, x, S, dxx, rfl, ⟨ok, dx, l1, l2, l3, l4, x1, x2, x3, x4, rfl, hnd, h0, h1, h2, h3, h4, v1, v2, v3, v4⟩, hx, hbt, k⟩ := h
    have hu := hu_of hr
    have nd := sc_Disk_check_block.nd
    obtain ⟨cl, n1, n2, n3, n4⟩ := T
    refine ⟨_, (pss_one (ps_if (pt_not (pt_tru (K := K) (pe_clK C_is_between hr (by decide) (pa_cons (pv 1) pa_nil) (pk_cons pe_int (pk_cons (pe_op op_sub (pe_callB (call_lenA (K := K)) rfl B.len PySem.boot_len (pa_cons (pe_fldA (K := K) (pv 0)) pa_nil)) pe_int) pk_nil))))) (pss_one (ps_raise rfl (takes_of rfl rfl rfl rfl) (pmk_x X_BadBlock hr (by decide) (pa_cons (pv 1) pa_nil)))) pss_nil)), ?_⟩
    repeat walk_at "s"
    have e : x1.length = n := by rw [v1.length, ok.fl]
    refine ⟨_, S, dxx, 0, _, rfl, hx, ?_⟩
    rw [e, hbt]
    repeat walk_at "s"
    refine r_iteT rfl ?_
    repeat walk_at "s"
    obtain ⟨_, _, _, _, oT, _⟩ := X_BadBlock.ex
    exact r_mkX ⟨Nat.le_of_ble_eq_true rfl, _, rfl, oT, XN, fun dd H' h1 h2 h3 => k dd H' h1 h2 h3⟩
end
end L02

open PySem L2 PyProof.Rows J

namespace L02
/-! ### how many classes an error belongs to -/
/-- the classes of errors by their names -/
structure ENames (mg : Str → Option Value) (c0 c1 c2 c3 c4 c5 c6 c7 c8 c9 c10 c11 c12 c13 cL : Addr) : Prop where
  g0 : mg "BadBlock" = some (.ref c0)
  g1 : mg "BadChoice" = some (.ref c1)
  g2 : mg "BadCount" = some (.ref c2)
  g3 : mg "BadLayout" = some (.ref c3)
  g4 : mg "BadPath" = some (.ref c4)
  g5 : mg "BadRule" = some (.ref c5)
  g6 : mg "BadStep" = some (.ref c6)
  g7 : mg "BadValue" = some (.ref c7)
  g8 : mg "HasEntry" = some (.ref c8)
  g9 : mg "NoEntry" = some (.ref c9)
  g10 : mg "NoRoom" = some (.ref c10)
  g11 : mg "NoSpace" = some (.ref c11)
  g12 : mg "NotEmpty" = some (.ref c12)
  g13 : mg "TooMany" = some (.ref c13)
  gL : mg "LogError" = some (.ref cL)
/-- D is the i-th of them -/
structure OneOf (K : PySem.W.Frag) (D : Addr) (i : Nat) (c0 c1 c2 c3 c4 c5 c6 c7 c8 c9 c10 c11 c12 c13 cL : Addr) : Prop where
  k0 : PySem.W.kitOne K (.ref D) (.ref c0) = some (decide (i = 0))
  k1 : PySem.W.kitOne K (.ref D) (.ref c1) = some (decide (i = 1))
  k2 : PySem.W.kitOne K (.ref D) (.ref c2) = some (decide (i = 2))
  k3 : PySem.W.kitOne K (.ref D) (.ref c3) = some (decide (i = 3))
  k4 : PySem.W.kitOne K (.ref D) (.ref c4) = some (decide (i = 4))
  k5 : PySem.W.kitOne K (.ref D) (.ref c5) = some (decide (i = 5))
  k6 : PySem.W.kitOne K (.ref D) (.ref c6) = some (decide (i = 6))
  k7 : PySem.W.kitOne K (.ref D) (.ref c7) = some (decide (i = 7))
  k8 : PySem.W.kitOne K (.ref D) (.ref c8) = some (decide (i = 8))
  k9 : PySem.W.kitOne K (.ref D) (.ref c9) = some (decide (i = 9))
  k10 : PySem.W.kitOne K (.ref D) (.ref c10) = some (decide (i = 10))
  k11 : PySem.W.kitOne K (.ref D) (.ref c11) = some (decide (i = 11))
  k12 : PySem.W.kitOne K (.ref D) (.ref c12) = some (decide (i = 12))
  k13 : PySem.W.kitOne K (.ref D) (.ref c13) = some (decide (i = 13))
  kL : PySem.W.kitOne K (.ref D) (.ref cL) = some true
  ec : ExcC K D
  xf : XfC K D
  nw : PySem.W.findIn K (.ref D) "why" = some none
theorem count_one {i : Nat} (h : i < 14) : List.count true [decide (i = 0), decide (i = 1), decide (i = 2), decide (i = 3), decide (i = 4), decide (i = 5), decide (i = 6), decide (i = 7), decide (i = 8), decide (i = 9), decide (i = 10), decide (i = 11), decide (i = 12), decide (i = 13)] = 1 := by
  have : ∀ i : Fin 14, List.count true [decide (i.1 = 0), decide (i.1 = 1), decide (i.1 = 2), decide (i.1 = 3), decide (i.1 = 4), decide (i.1 = 5), decide (i.1 = 6), decide (i.1 = 7), decide (i.1 = 8), decide (i.1 = 9), decide (i.1 = 10), decide (i.1 = 11), decide (i.1 = 12), decide (i.1 = 13)] = 1 := by decide
  exact this ⟨i, h⟩
section
variable {P : Program} {w : World} {K : PySem.W.Frag} {mg : Str → Option Value} {base : Heap} {c0 c1 c2 c3 c4 c5 c6 c7 c8 c9 c10 c11 c12 c13 cL : Addr}
def spClasses (K : PySem.W.Frag) (c0 c1 c2 c3 c4 c5 c6 c7 c8 c9 c10 c11 c12 c13 cL : Addr) : SpX := fun a cls d vs H Q _ => ∃ (D dd : Addr) (i : Nat) (fs : List (Str × V)) (y : Str), vs = [.ref a] ∧ cls = .ref D ∧ d = some dd ∧ OneOf K D i c0 c1 c2 c3 c4 c5 c6 c7 c8 c9 c10 c11 c12 c13 cL ∧ i < 14 ∧
  H dd = some (.xd fs) ∧ fs.lookup ("why" : Str) = some (V.str y) ∧ ∀ H', Same H H' → Q (.int 1) H'
abbrev s_law_classes_of : Stmt := top 31
abbrev N_law_classes_of : List Str := ["_law_e", "_law_kinds"]
theorem sc_law_classes_of : FnScope N_law_classes_of ["_law_e"] (defScope s_law_classes_of) :=
  ⟨rfl, rfl, rfl, by decide +kernel, rfl, by decide +kernel, by decide +kernel⟩

theorem ok_classes_of {f : Addr} {fd : FuncData} (F : Fun K "_law_classes_of" "_law_classes_of" s_law_classes_of f fd) (B : Bl mg) (EN : ENames mg c0 c1 c2 c3 c4 c5 c6 c7 c8 c9 c10 c11 c12 c13 cL) :
    FnP P w K mg base CX0 1 f fd ["_law_e"] (liftX (spClasses K c0 c1 c2 c3 c4 c5 c6 c7 c8 c9 c10 c11 c12 c13 cL)) := by
  refine okP F sc_law_classes_of (fun p vs H Q E h => ?_) (fun cdv A outer s H vs Q E p hr h => ?_)
  · obtain ⟨_, _, _, _, _, _, _, _, _, rfl, _⟩ := h
    rfl
  · obtain ⟨a, oe⟩ := p
    obtain ⟨_, _, hz, hf, D, dd, i, fs, y, rfl, rfl, rfl, oo, hi, hdd, hy, k⟩ := h
    have nd := sc_law_classes_of.nd
    obtain ⟨gC_BadBlock, gC_BadChoice, gC_BadCount, gC_BadLayout, gC_BadPath, gC_BadRule, gC_BadStep, gC_BadValue, gC_HasEntry, gC_NoEntry, gC_NoRoom, gC_NoSpace, gC_NotEmpty, gC_TooMany, gC_LogError⟩ := EN
    obtain ⟨k0, k1, k2, k3, k4, k5, k6, k7, k8, k9, k10, k11, k12, k13, kL, ec, xf, nw⟩ := oo
    refine ⟨_, (pss_cons (ps_set (i := 1) nd rfl (by first | exact Or.inl rfl | exact Or.inr rfl) (pe_lst (pa_cons (pe_callB (call_isX (K := K) List.mem_cons_self hz hf) rfl B.isinstance (by decide +kernel) (pa_cons (pv 0) (pa_cons (pe_gcl rfl gC_BadBlock) pa_nil))) (pa_cons (pe_callB (call_isX (K := K) List.mem_cons_self hz hf) rfl B.isinstance (by decide +kernel) (pa_cons (pv 0) (pa_cons (pe_gcl rfl gC_BadChoice) pa_nil))) (pa_cons (pe_callB (call_isX (K := K) List.mem_cons_self hz hf) rfl B.isinstance (by decide +kernel) (pa_cons (pv 0) (pa_cons (pe_gcl rfl gC_BadCount) pa_nil))) (pa_cons (pe_callB (call_isX (K := K) List.mem_cons_self hz hf) rfl B.isinstance (by decide +kernel) (pa_cons (pv 0) (pa_cons (pe_gcl rfl gC_BadLayout) pa_nil))) pa_nil))))))
      (pss_cons (ps_set (i := 1) nd rfl (by first | exact Or.inl rfl | exact Or.inr rfl) (pe_op (op_addA (K := K)) (pv 1) (pe_lst (pa_cons (pe_callB (call_isX (K := K) List.mem_cons_self hz hf) rfl B.isinstance (by decide +kernel) (pa_cons (pv 0) (pa_cons (pe_gcl rfl gC_BadPath) pa_nil))) (pa_cons (pe_callB (call_isX (K := K) List.mem_cons_self hz hf) rfl B.isinstance (by decide +kernel) (pa_cons (pv 0) (pa_cons (pe_gcl rfl gC_BadRule) pa_nil))) (pa_cons (pe_callB (call_isX (K := K) List.mem_cons_self hz hf) rfl B.isinstance (by decide +kernel) (pa_cons (pv 0) (pa_cons (pe_gcl rfl gC_BadStep) pa_nil))) (pa_cons (pe_callB (call_isX (K := K) List.mem_cons_self hz hf) rfl B.isinstance (by decide +kernel) (pa_cons (pv 0) (pa_cons (pe_gcl rfl gC_BadValue) pa_nil))) pa_nil)))))))
      (pss_cons (ps_set (i := 1) nd rfl (by first | exact Or.inl rfl | exact Or.inr rfl) (pe_op (op_addA (K := K)) (pv 1) (pe_lst (pa_cons (pe_callB (call_isX (K := K) List.mem_cons_self hz hf) rfl B.isinstance (by decide +kernel) (pa_cons (pv 0) (pa_cons (pe_gcl rfl gC_HasEntry) pa_nil))) (pa_cons (pe_callB (call_isX (K := K) List.mem_cons_self hz hf) rfl B.isinstance (by decide +kernel) (pa_cons (pv 0) (pa_cons (pe_gcl rfl gC_NoEntry) pa_nil))) (pa_cons (pe_callB (call_isX (K := K) List.mem_cons_self hz hf) rfl B.isinstance (by decide +kernel) (pa_cons (pv 0) (pa_cons (pe_gcl rfl gC_NoRoom) pa_nil))) (pa_cons (pe_callB (call_isX (K := K) List.mem_cons_self hz hf) rfl B.isinstance (by decide +kernel) (pa_cons (pv 0) (pa_cons (pe_gcl rfl gC_NoSpace) pa_nil))) pa_nil)))))))
      (pss_cons (ps_set (i := 1) nd rfl (by first | exact Or.inl rfl | exact Or.inr rfl) (pe_op (op_addA (K := K)) (pv 1) (pe_lst (pa_cons (pe_callB (call_isX (K := K) List.mem_cons_self hz hf) rfl B.isinstance (by decide +kernel) (pa_cons (pv 0) (pa_cons (pe_gcl rfl gC_NotEmpty) pa_nil))) (pa_cons (pe_callB (call_isX (K := K) List.mem_cons_self hz hf) rfl B.isinstance (by decide +kernel) (pa_cons (pv 0) (pa_cons (pe_gcl rfl gC_TooMany) pa_nil))) pa_nil)))))
      (pss_one (ps_ret (pe_op (op_addA (K := K)) (pe_op (op_addA (K := K)) (pe_bm PySem.F.plainAttrs_list PySem.F.slot_list_count PySem.F.type_list_count (mt_lcountB (K := K)) (pv 1) (pa_cons pe_bl pa_nil)) (pe_callTy call_int1 rfl B.int (by decide +kernel) (pa_cons (pe_not (pe_callB (call_isX (K := K) List.mem_cons_self hz hf) rfl B.isinstance (by decide +kernel) (pa_cons (pv 0) (pa_cons (pe_gcl rfl gC_LogError) pa_nil)))) pa_nil))) (pe_callTy call_int1 rfl B.int (by decide +kernel) (pa_cons (pe_not (pe_callB (call_isiA (K := K)) rfl B.isinstance (by decide +kernel) (pa_cons (pe_xf2 (K := K) List.mem_cons_self hz hf (pv 0)) (pa_cons (pe_tyN (T := "str") rfl B.str (by decide +kernel)) pa_nil)))) pa_nil))))))))), ?_⟩
    repeat walk_at "s"
    refine r_isXCl ec hdd k0 ?_
    repeat walk_at "s"
    refine r_isXCl ec hdd k1 ?_
    repeat walk_at "s"
    refine r_isXCl ec hdd k2 ?_
    repeat walk_at "s"
    refine r_isXCl ec hdd k3 ?_
    repeat walk_at "s"
    refine r_newL (sz (Nat.le_of_ble_eq_true rfl)) (fun l1 H1 hl1 s1 hl11 => ?_)
    have hdd1 := s1 _ _ hdd
    repeat walk_at "s"
    refine r_isXCl ec hdd1 k4 ?_
    repeat walk_at "s"
    refine r_isXCl ec hdd1 k5 ?_
    repeat walk_at "s"
    refine r_isXCl ec hdd1 k6 ?_
    repeat walk_at "s"
    refine r_isXCl ec hdd1 k7 ?_
    repeat walk_at "s"
    refine r_newL (sz (Nat.le_of_ble_eq_true rfl)) (fun l2 H2 hl2 s2 hl22 => ?_)
    repeat walk_at "s"
    refine r_addL (s2 _ _ hl11) hl22 (sz (Nat.le_of_ble_eq_true rfl)) (fun l3 H3 hl3 s3 hl33 => ?_)
    have hdd3 := s3 _ _ (s2 _ _ hdd1)
    repeat walk_at "s"
    refine r_isXCl ec hdd3 k8 ?_
    repeat walk_at "s"
    refine r_isXCl ec hdd3 k9 ?_
    repeat walk_at "s"
    refine r_isXCl ec hdd3 k10 ?_
    repeat walk_at "s"
    refine r_isXCl ec hdd3 k11 ?_
    repeat walk_at "s"
    refine r_newL (sz (Nat.le_of_ble_eq_true rfl)) (fun l4 H4 hl4 s4 hl44 => ?_)
    repeat walk_at "s"
    refine r_addL (s4 _ _ hl33) hl44 (sz (Nat.le_of_ble_eq_true rfl)) (fun l5 H5 hl5 s5 hl55 => ?_)
    have hdd5 := s5 _ _ (s4 _ _ hdd3)
    repeat walk_at "s"
    refine r_isXCl ec hdd5 k12 ?_
    repeat walk_at "s"
    refine r_isXCl ec hdd5 k13 ?_
    repeat walk_at "s"
    refine r_newL (sz (Nat.le_of_ble_eq_true rfl)) (fun l6 H6 hl6 s6 hl66 => ?_)
    repeat walk_at "s"
    refine r_addL (s6 _ _ hl55) hl66 (sz (Nat.le_of_ble_eq_true rfl)) (fun l7 H7 hl7 s7 hl77 => ?_)
    have hdd7 := s7 _ _ (s6 _ _ hdd5)
    repeat walk_at "s"
    refine ⟨l7, [decide (i = 0), decide (i = 1), decide (i = 2), decide (i = 3), decide (i = 4), decide (i = 5), decide (i = 6), decide (i = 7), decide (i = 8), decide (i = 9), decide (i = 10), decide (i = 11), decide (i = 12), decide (i = 13)], true, rfl, rfl, .of hl77, ?_⟩
    rw [count_one hi]
    repeat walk_at "s"
    refine r_isXCl ec hdd7 kL ?_
    repeat walk_at "s"
    refine .inr ⟨false, rfl, ?_⟩
    dsimp only
    repeat walk_at "s"
    refine r_xf2 ?_
    repeat walk_at "s"
    refine ⟨rfl, D, dd, _, .str y, rfl, xf, nw, rfl, hdd7, hy, ?_⟩
    repeat walk_at "s"
    refine r_isStr (S := []) (.str y) ?_
    repeat walk_at "s"
    refine .inr ⟨false, rfl, ?_⟩
    dsimp only
    repeat walk_at "s"
    exact k H7 fun b o e => s7 b o (s6 b o (s5 b o (s4 b o (s3 b o (s2 b o (s1 b o e))))))
end
end L02

open PySem L2 PyProof.Rows J

namespace L02
section
variable {P : Program} {w : World} {K : PySem.W.Frag} {mg : Str → Option Value} {base : Heap}
/-! ### the source of draws -/
def SrcAt (H : Hp) (p : Addr) (n : Int) : Prop := ∃ a b c : Int, H p = some (.lst [.int a, .int b, .int c]) ∧ 0 ≤ c ∧ c ≤ n
theorem SrcAt.mono {H : Hp} {p : Addr} {n m : Int} (h : SrcAt H p n) (l : n ≤ m) : SrcAt H p m := by
  obtain ⟨a, b, c, h1, h2, h3⟩ := h
  exact ⟨a, b, c, h1, h2, by omega⟩
theorem SrcAt.but {H H' : Hp} {p : Addr} {n : Int} {S : List Addr} (h : SrcAt H p n) (b : But S H H') (hp : p ∉ S) : SrcAt H' p n := by
  obtain ⟨a, b1, c, h1, h2⟩ := h
  exact ⟨a, b1, c, b.at h1 hp, h2⟩
theorem SrcAt.same {H H' : Hp} {p : Addr} {n : Int} (h : SrcAt H p n) (b : Same H H') : SrcAt H' p n := h.but (But.of_same (S := []) b) (by simp)
theorem SrcAt.live {H : Hp} {p : Addr} {n : Int} (h : SrcAt H p n) : H p ≠ none := by
  obtain ⟨a, b1, c, h1, _⟩ := h
  exact live_of h1
theorem src_same {H H' : Hp} {p : Addr} {n : Int} (b : Same H H') (h : SrcAt H p n) : SrcAt H' p n := h.same b
theorem src_but {H H' : Hp} {p : Addr} {n : Int} {S : List Addr} (b : But S H H') (h : SrcAt H p n) (hp : p ∉ S) : SrcAt H' p n := h.but b hp
local macro_rules | `(tactic| walk_at "src") => `(tactic| first
  | assumption
  | (refine L02.src_same (by assumption) ?_; walk_at "src")
  | (refine L02.src_but (by assumption) ?_ ?_; walk_at "src"; walk_at "ni"))
def spCell (K : PySem.W.Frag) : Sp := fun vs H Q _ => ∃ (a : Addr) (ns : List Int) (k : Int), vs = [.ref a, .int k] ∧ SqL K H a (ns.map V.int) ∧ 0 ≤ k ∧
  ns.length ≤ 100 ∧ ∀ z, Q (.int z) H
abbrev s_law_cell_at : Stmt := top 26
abbrev N_law_cell_at : List Str := ["_law_script", "_law_k"]
theorem sc_law_cell_at : FnScope N_law_cell_at ["_law_script", "_law_k"] (defScope s_law_cell_at) :=
  ⟨rfl, rfl, rfl, by decide +kernel, rfl, by decide +kernel, by decide +kernel⟩

theorem ok_cell {f : Addr} {fd : FuncData} (F : Fun K "_law_cell_at" "_law_cell_at" s_law_cell_at f fd) (B : Bl mg) :
    FnOk P w K mg base CX0 1 f fd ["_law_script", "_law_k"] (spCell K) := by
  refine F.ok sc_law_cell_at (fun vs H Q E h => ?_) (fun cdv A outer s H vs Q E hr h => ?_)
  · obtain ⟨_, _, _, rfl, _⟩ := h
    rfl
  · obtain ⟨a, ns, i, rfl, ha, h0, hl, k⟩ := h
    have hu := hu_of hr
    have nd := sc_law_cell_at.nd
    refine ⟨_, (pss_cons (ps_if (pt_cmpR op_ltA (pv 1) (pe_callB (call_lenA (K := K)) rfl B.len PySem.boot_len (pa_cons (pv 0) pa_nil)) (nomark _)) (pss_one (ps_ret (pe_ix (ix_any (K := K)) (pv 0) (pv 1) (fun _ _ => rfl)))) pss_nil)
      (pss_one (ps_ret pe_int))), ?_⟩
    repeat walk_at "s"
    refine r_ite (fun hi => ?_) (fun hi => ?_)
    · repeat walk_at "s"
      obtain ⟨n, rfl⟩ := Int.eq_ofNat_of_zero_le h0
      rw [List.length_map] at hi
      have hn : n < ns.length := by omega
      refine r_ixL (v := .int (ns[n])) ha (atI_nat (by simp [hn])) ?_
      exact k _
    · repeat walk_at "s"
      exact k _
def spWell : Sp := fun vs H Q _ => ∃ c : Int, vs = [.int c] ∧ ∀ p H', H p = none → Same H H' → SrcAt H' p 0 → Q (.ref p) H'
abbrev s_law_well : Stmt := top 27
abbrev N_law_well : List Str := ["_law_cell"]
theorem sc_law_well : FnScope N_law_well ["_law_cell"] (defScope s_law_well) :=
  ⟨rfl, rfl, rfl, by decide +kernel, rfl, by decide +kernel, by decide +kernel⟩

theorem ok_well {f : Addr} {fd : FuncData} (F : Fun K "_law_well" "_law_well" s_law_well f fd) (B : Bl mg) :
    FnOk P w K mg base CX0 1 f fd ["_law_cell"] spWell := by
  refine F.ok sc_law_well (fun vs H Q E h => ?_) (fun cdv A outer s H vs Q E hr h => ?_)
  · obtain ⟨_, rfl, _⟩ := h
    rfl
  · obtain ⟨c, rfl, k⟩ := h
    have hu := hu_of hr
    have nd := sc_law_well.nd
    refine ⟨_, (pss_one (ps_ret (pe_lst (pa_cons (pe_ix (ix_any (K := K)) (pe_lst (pa_cons pe_int (pa_cons (pv 0) pa_nil))) (pe_callTy call_int1 rfl B.int (by decide +kernel) (pa_cons (pe_cmpR op_ge (pv 0) (pe_op op_pow pe_int pe_int) (nomark _)) pa_nil)) (fun _ _ => rfl)) (pa_cons (pv 0) (pa_cons pe_int pa_nil)))))), ?_⟩
    repeat walk_at "s"
    refine r_newL (sz (Nat.le_of_ble_eq_true rfl)) (fun l H1 hl s1 hl1 => ?_)
    repeat walk_at "s"
    have fin : ∀ H2 (i : Int), Same H H2 → NewL Q [.int i, .int c, .int 0] H2 := fun H2 i s2 => by
      refine r_newL (sz (Nat.le_of_ble_eq_true rfl)) (fun p H3 hp s3 hp3 => ?_)
      exact k p H3 ((But.of_same (S := []) s2).free hp) (fun b o e => s3 b o (s2 b o e)) ⟨_, _, _, hp3, by omega, by omega⟩
    refine .inr ⟨_, rfl, ?_⟩
    dsimp only
    split
    · repeat walk_at "s"
      exact fin _ _ s1
    · repeat walk_at "s"
      exact fin _ _ s1
def spDraw : Sp := fun vs H Q _ => ∃ (p : Addr) (n size : Int), vs = [.ref p, .int size] ∧ SrcAt H p n ∧ n ≤ 2 ^ 40 ∧
  0 < size ∧ size < 1073741824 ∧ ∀ d H', 0 ≤ d → d < size → But [p] H H' → SrcAt H' p (n + 1) → Q (.int d) H'
abbrev s_law_draw : Stmt := top 28
abbrev N_law_draw : List Str := ["_law_well_here", "_law_many", "_law_found", "_law_salt", "_law_number"]
theorem sc_law_draw : FnScope N_law_draw ["_law_well_here", "_law_many"] (defScope s_law_draw) :=
  ⟨rfl, rfl, rfl, by decide +kernel, rfl, by decide +kernel, by decide +kernel⟩

theorem ok_draw {f : Addr} {fd : FuncData} (F : Fun K "_law_draw" "_law_draw" s_law_draw f fd) (B : Bl mg) :
    FnOk P w K mg base CX0 1 f fd ["_law_well_here", "_law_many"] spDraw := by
  refine F.ok sc_law_draw (fun vs H Q E h => ?_) (fun cdv A outer s H vs Q E hr h => ?_)
  · obtain ⟨_, _, _, rfl, _⟩ := h
    rfl
  · obtain ⟨p, n, size, rfl, ⟨a, b, c, hp, hc0, hc1⟩, hn, hs0, hs1, k⟩ := h
    have hu := hu_of hr
    have nd := sc_law_draw.nd
    refine ⟨_, (pss_cons (ps_if (pt_cmpR op_gt (pe_ix (ix_any (K := K)) (pv 0) pe_int (fun _ _ => rfl)) pe_int (nomark _)) (pss_cons (ps_set (i := 2) nd rfl (by first | exact Or.inl rfl | exact Or.inr rfl) (pe_op op_mod (pe_ix (ix_any (K := K)) (pv 0) pe_int (fun _ _ => rfl)) (pv 1)))
      (pss_cons (ps_asg (pe_op op_fdiv (pe_ix (ix_any (K := K)) (pv 0) pe_int (fun _ _ => rfl)) (pv 1)) (pg_sub (pv 0) pe_int set_list))
      (pss_one (ps_ret (pv 2))))) pss_nil)
      (pss_cons (ps_asg (pe_op (op_addA (K := K)) (pe_ix (ix_any (K := K)) (pv 0) pe_int (fun _ _ => rfl)) pe_int) (pg_sub (pv 0) pe_int set_list))
      (pss_cons (ps_set (i := 3) nd rfl (by first | exact Or.inl rfl | exact Or.inr rfl) (pe_op op_mod (pe_op op_fdivW (pe_ix (ix_any (K := K)) (pv 0) pe_int (fun _ _ => rfl)) pe_int) pe_int))
      (pss_cons (ps_set (i := 4) nd rfl (by first | exact Or.inl rfl | exact Or.inr rfl) (pe_op op_mod (pe_op op_pow (pe_op (op_addA (K := K)) (pe_op (op_addA (K := K)) (pe_op (op_addA (K := K)) (pe_op op_mod (pe_ix (ix_any (K := K)) (pv 0) pe_int (fun _ _ => rfl)) pe_int) (pe_op (op_mulA (K := K)) pe_int (pe_ix (ix_any (K := K)) (pv 0) pe_int (fun _ _ => rfl)))) (pv 3)) pe_int) pe_int) pe_int))
      (pss_cons (ps_set (i := 4) nd rfl (by first | exact Or.inl rfl | exact Or.inr rfl) (pe_op op_mod (pe_op (op_mulA (K := K)) (pv 4) (pe_op (op_addA (K := K)) (pe_op (op_addA (K := K)) (pe_op op_fdiv (pv 4) pe_int) pe_int) (pe_ix (ix_any (K := K)) (pv 0) pe_int (fun _ _ => rfl)))) pe_int))
      (pss_one (ps_ret (pe_op op_mod (pe_op op_mod (pe_op (op_mulA (K := K)) (pv 4) (pe_op (op_addA (K := K)) (pe_op op_fdiv (pv 4) pe_int) pe_int)) pe_int) (pv 1))))))))), ?_⟩
    repeat walk_at "s"
    refine r_ite (fun ha => ?_) (fun ha => ?_)
    · repeat (first | walk_at "s" | (refine .inl ⟨_, rfl, ?_⟩; try dsimp only))
      refine s_lst hp (by rfl) (fun H' b' hp' => ?_)
      repeat walk_at "s"
      exact k _ _ (Int.emod_nonneg _ (by omega)) (Int.emod_lt_of_pos _ hs0) b' ⟨_, _, _, hp', hc0, by omega⟩
    · repeat walk_at "s"
      refine s_lst hp (by rfl) (fun H' b' hp' => ?_)
      repeat walk_at "s"
      refine r_I (C := CDivW) ⟨by decide, by decide +kernel⟩ ?_
      repeat (first | walk_at "s" | (refine .inl ⟨_, rfl, ?_⟩; try dsimp only))
      exact k _ _ (Int.emod_nonneg _ (by omega)) (Int.emod_lt_of_pos _ hs0) b' ⟨_, _, _, hp', by omega, by omega⟩
def spOne (K : PySem.W.Frag) : Sp := fun vs H Q _ => ∃ (p l : Addr) (n : Int) (xs : List V), vs = [.ref p, .ref l] ∧ SrcAt H p n ∧ n ≤ 2 ^ 40 ∧ l ≠ p ∧
  SqL K H l xs ∧ xs ≠ [] ∧ xs.length ≤ 100000 ∧ ∀ (i : Nat) v H', xs[i]? = some v → But [p] H H' → SrcAt H' p (n + 1) → Q v H'
abbrev s_law_one : Stmt := top 29
abbrev N_law_one : List Str := ["_law_well_here", "_law_some"]
theorem sc_law_one : FnScope N_law_one ["_law_well_here", "_law_some"] (defScope s_law_one) :=
  ⟨rfl, rfl, rfl, by decide +kernel, rfl, by decide +kernel, by decide +kernel⟩

theorem ok_one {f : Addr} {fd : FuncData} (F : Fun K "_law_one" "_law_one" s_law_one f fd) (B : Bl mg)
    (C_law_draw : Cl P w K mg base CX0 1 "_law_draw" spDraw) :
    FnOk P w K mg base CX0 2 f fd ["_law_well_here", "_law_some"] (spOne K) := by
  refine F.ok sc_law_one (fun vs H Q E h => ?_) (fun cdv A outer s H vs Q E hr h => ?_)
  · obtain ⟨_, _, _, _, rfl, _⟩ := h
    rfl
  · obtain ⟨p, l, n, xs, rfl, hp, hn, hlp, hl, hne, hz, k⟩ := h
    have hu := hu_of hr
    have nd := sc_law_one.nd
    refine ⟨_, (pss_one (ps_ret (pe_ix (ix_any (K := K)) (pv 1) (pe_cl (E := fun _ => E0) C_law_draw hr (by decide) pass00 (pa_cons (pv 0) (pa_cons (pe_callB (call_lenA (K := K)) rfl B.len PySem.boot_len (pa_cons (pv 1) pa_nil)) pa_nil))) (fun _ _ => rfl)))), ?_⟩
    repeat walk_at "s"
    have hpos : 0 < xs.length := List.length_pos_iff.mpr hne
    refine ⟨p, n, xs.length, rfl, hp, hn, by omega, by omega, fun d H' h0 h1 b' hp' => ?_⟩
    obtain ⟨m, rfl⟩ := Int.eq_ofNat_of_zero_le h0
    have hm : m < xs.length := by omega
    refine r_ixL (b'.sqL hl (by simpa using hlp)) (atI_nat (List.getElem?_eq_getElem hm)) ?_
    exact k m _ _ (List.getElem?_eq_getElem hm) b' hp'
end
end L02

open PySem L2 PyProof.Rows J

namespace L02
section
variable {P : Program} {w : World} {K : PySem.W.Frag} {mg : Str → Option Value} {base : Heap} {CDisk CLayout : Addr}
/-! ### pending, choices, disks behind a crash -/
abbrev s_Disk_pending : Stmt := inClass (top 22) 6
abbrev N_Disk_pending : List Str := ["self"]
theorem sc_Disk_pending : FnScope N_Disk_pending ["self"] (defScope s_Disk_pending) :=
  ⟨rfl, rfl, rfl, by decide +kernel, rfl, by decide +kernel, by decide +kernel⟩

theorem ok_Disk_pending {f : Addr} {fd : FuncData} (F : Fun K "pending" "Disk.pending" s_Disk_pending f fd) (B : Bl mg) (T : TDisk K CDisk) :
    FnOk P w K mg base CX0 1 f fd ["self"] (spCopyOf K CDisk fun D => D.writes.map dWr) := by
  refine F.ok sc_Disk_pending (fun vs H Q E h => ?_) (fun cdv A outer s H vs Q E hr h => ?_)
  · obtain ⟨_, _, _, _, _, rfl, _⟩ := h
    rfl
  · obtain ⟨d, fd, n, m, D, rfl, ⟨ok, dx, l1, l2, l3, l4, x1, x2, x3, x4, rfl, hnd, h0, h1, h2, h3, h4, v1, v2, v3, v4⟩, k⟩ := h
    have nd := sc_Disk_pending.nd
    obtain ⟨cl, n1, n2, n3, n4⟩ := T
    refine ⟨_, (pss_one (ps_ret (pe_callTy (call_listA (K := K)) rfl B.list (by decide +kernel) (pa_cons (pe_fldA (K := K) (pv 0)) pa_nil)))), ?_⟩
    repeat walk_at "s"
    refine r_listL (.of h3) (fun l H1 hl s1 hl1 => ?_)
    exact k l x3 H1 hl s1 hl1 (v3.same s1)
/-- ascending indices below a count -/
structure Choice (c : Nat) (ns : List Nat) : Prop where
  up : ns.Pairwise (· < ·)
  hi : ∀ x ∈ ns, x < c
def spChoice (K : PySem.W.Frag) : Sp := fun vs H Q _ => ∃ (a : Addr) (ns : List Nat) (c : Nat), vs = [.ref a, .int c] ∧ H a = some (.lst (ns.map fun i : Nat => V.int i)) ∧ Choice c ns ∧ ∀ H', Same H H' → Q .non H'
theorem choice_len : ∀ (ns : List Nat) (c k : Nat), ns.Pairwise (· < ·) → (∀ x ∈ ns, k ≤ x ∧ x < c) → ns.length + k ≤ c ∨ ns = []
  | [], _, _, _, _ => .inr rfl
  | a :: r, c, k, h, hi => by
    have h1 := List.pairwise_cons.mp h
    have ha := hi a List.mem_cons_self
    rcases choice_len r c (a + 1) h1.2 (fun x hx => ⟨h1.1 x hx, (hi x (List.mem_cons_of_mem _ hx)).2⟩) with e | e
    · rw [List.length_cons]; omega
    · subst e
      rw [List.length_singleton]; omega
theorem Choice.len {c : Nat} {ns : List Nat} (h : Choice c ns) : ns.length ≤ c := by
  rcases choice_len ns c 0 h.up (fun x hx => ⟨Nat.zero_le _, h.hi x hx⟩) with e | e
  · omega
  · rw [e]; exact Nat.zero_le _
abbrev s_check_choice : Stmt := top 23
abbrev N_check_choice : List Str := ["kept", "count", "last", "at", "index"]
theorem sc_check_choice : FnScope N_check_choice ["kept", "count"] (defScope s_check_choice) :=
  ⟨rfl, rfl, rfl, by decide +kernel, rfl, by decide +kernel, by decide +kernel⟩

theorem ok_check_choice {f : Addr} {fd : FuncData} (F : Fun K "check_choice" "check_choice" s_check_choice f fd) (B : Bl mg) (C_is_between : ClK P w K mg base CX0 2 "is_between" 1 ["low", "high"] (spBet K)) :
    FnOk P w K mg base CX0 3 f fd ["kept", "count"] (spChoice K) := by
  refine F.ok sc_check_choice (fun vs H Q E h => ?_) (fun cdv A outer s H vs Q E hr h => ?_)
  · obtain ⟨_, _, _, rfl, _⟩ := h
    rfl
  · obtain ⟨a, ns, c, rfl, ha, hc, k⟩ := h
    have hu := hu_of hr
    have nd := sc_check_choice.nd
    refine ⟨_, (pss_cons (ps_if (pt_not (pt_tru (K := K) (pe_callB (call_isiA (K := K)) rfl B.isinstance (by decide +kernel) (pa_cons (pv 0) (pa_cons (pe_tyN (T := "list") rfl B.list (by decide +kernel)) pa_nil))))) (pss_one (ps_dead)) pss_nil)
      (pss_cons (ps_set (i := 2) nd rfl (by first | exact Or.inl rfl | exact Or.inr rfl) (pe_un un_neg pe_int))
      (pss_one (ps_for PassesOwn.never rfl (pi_enum rfl B.enumerate (pa_cons (pv 0) pa_nil)) (pg_tpl (K := K) rfl (pgs_cons (pg_name (i := 3) nd rfl (by first | exact Or.inl rfl | exact Or.inr rfl)) (pgs_cons (pg_name (i := 4) nd rfl (by first | exact Or.inl rfl | exact Or.inr rfl)) pgs_nil)))
      (pss_cons (ps_if (pt_not (pt_tru (K := K) (pe_clK C_is_between hr (by decide) (pa_cons (pv 4) pa_nil) (pk_cons (pe_op (op_addA (K := K)) (pv 2) pe_int) (pk_cons (pe_op op_sub (pv 1) pe_int) pk_nil))))) (pss_one (ps_dead)) pss_nil)
      (pss_one (ps_set (i := 2) nd rfl (by first | exact Or.inl rfl | exact Or.inr rfl) (pv 4)))))))), ?_⟩
    repeat walk_at "s"
    refine r_isList (S := []) (d := .list ((ns.map fun i : Nat => (i : Int)).map .int)) ?_ ?_
    · refine .lst (xs := (ns.map fun i : Nat => (i : Int)).map V.int) ?_ List.not_mem_nil DnAll.ints
      rw [List.map_map]; exact ha
    repeat walk_at "s"
    refine r_iteF rfl ?_
    repeat walk_at "s"
    refine r_U ?_
    repeat walk_at "s"
    refine forE (.of ha) (fun i σ H' => ∃ last o3 o4, σ = [some (.ref a), some (.int c), some (.int last), o3, o4] ∧ Same H H' ∧ -1 ≤ last ∧ ∀ x ∈ ns.drop i, last < (x : Int))
      ⟨_, _, _, rfl, fun _ _ e => e, by decide, fun x _ => by omega⟩ ?_ ?_ ?_
    · rintro i σ H1 hi ⟨last, o3, o4, rfl, s1, _⟩
      exact .of (s1 _ _ ha)
    · rintro i x σ H1 hi ⟨last, o3, o4, rfl, s1, hl0, hl⟩ T H2 hT s2 hT2
      obtain ⟨n, hn, rfl⟩ := map_getG hi
      have hdr : ns.drop i = n :: ns.drop (i + 1) := by
        obtain ⟨hlt, rfl⟩ := List.getElem?_eq_some_iff.mp hn
        exact List.drop_eq_getElem_cons hlt
      have hln := hl n (by rw [hdr]; exact List.mem_cons_self)
      have hnc := hc.hi n (List.mem_of_getElem? hn)
      repeat walk_at "s"
      refine ⟨_, [], .int n, last + 1, _, rfl, .int _, ?_⟩
      rw [bet_iff.mpr ⟨by omega, by omega⟩]
      repeat walk_at "s"
      refine r_iteF rfl ?_
      repeat walk_at "s"
      refine ⟨_, _, _, rfl, fun b o e => s2 b o (s1 b o e), by omega, fun x hx => ?_⟩
      have hp := hc.up.sublist (List.drop_sublist i ns)
      rw [hdr] at hp
      have := (List.pairwise_cons.mp hp).1 x hx
      omega
    · rintro σ H1 ⟨last, o3, o4, rfl, s1, _⟩
      exact k H1 s1
def spBegin (K : PySem.W.Frag) (CDisk : Addr) : Sp := fun vs H Q _ => ∃ (a : Addr) (xs : List V) (vals : List PyData), vs = [.ref a] ∧ H a = some (.lst xs) ∧ DnAll K [] H xs vals ∧ (∀ v ∈ vals, blockB v = true) ∧ 1 ≤ vals.length ∧ vals.length ≤ 128 ∧
  ∀ d ls H', Fr (d :: ls) H → Same H H' → DiskAt K CDisk H' d (d :: ls) vals.length 0 ⟨vals, vals, [], []⟩ → Q (.ref d) H'
abbrev s_beginning_with : Stmt := top 24
abbrev N_beginning_with : List Str := ["values", "disk"]
theorem sc_beginning_with : FnScope N_beginning_with ["values"] (defScope s_beginning_with) :=
  ⟨rfl, rfl, rfl, by decide +kernel, rfl, by decide +kernel, by decide +kernel⟩

theorem ok_beginning_with {f : Addr} {fd : FuncData} (F : Fun K "beginning_with" "beginning_with" s_beginning_with f fd) (B : Bl mg) (T : TDisk K CDisk) (N_Disk : C8.Mak P w K mg base 3 "Disk" CDisk (spDiskInit K CDisk) []) :
    FnOk P w K mg base CX0 5 f fd ["values"] (spBegin K CDisk) := by
  refine F.ok sc_beginning_with (fun vs H Q E h => ?_) (fun cdv A outer s H vs Q E hr h => ?_)
  · obtain ⟨_, _, _, rfl, _⟩ := h
    rfl
  · obtain ⟨a, xs, vals, rfl, ha, hx, hb, h1, h2, k⟩ := h
    have nd := sc_beginning_with.nd
    obtain ⟨cl, n1, n2, n3, n4⟩ := T
    have xl : xs.length = vals.length := hx.length
    have nlv : noLs vals = true := noLs_all.mpr fun v hv => blockB_nol (hb v hv)
    refine ⟨_, (pss_cons (ps_set (i := 1) nd rfl (by first | exact Or.inl rfl | exact Or.inr rfl) (C8.pe_mk N_Disk hr (by decide) rfl (pa_cons (pe_callB (call_lenA (K := K)) rfl B.len PySem.boot_len (pa_cons (pv 0) pa_nil)) pa_nil)))
      (pss_cons (ps_fldA (K := K) (pv 1) (pe_callTy (call_listA (K := K)) rfl B.list (by decide +kernel) (pa_cons (pv 0) pa_nil)))
      (pss_cons (ps_fldA (K := K) (pv 1) (pe_callTy (call_listA (K := K)) rfl B.list (by decide +kernel) (pa_cons (pv 0) pa_nil)))
      (pss_one (ps_ret (pv 1)))))), ?_⟩
    repeat walk_at "s"
    rw [xl]
    refine r_makeAt (fun d dx H1 hd s1 hd1 => ?_)
    refine ⟨d, dx, vals.length, rfl, hd1, h1, h2, fun ls H2 hls b2 hD => ⟨rfl, ?_⟩⟩
    obtain ⟨ok, dx', l1, l2, l3, l4, x1, x2, x3, x4, efd, hnd, g0, g1, g2, g3, g4, v1, v2, v3, v4⟩ := hD
    obtain rfl : ls = [l1, l2, l3, l4] := (List.cons.inj efd).2
    simp only [List.nodup_cons, List.mem_cons, List.not_mem_nil, or_false, not_or, not_false_eq_true, List.nodup_nil, and_true] at hnd
    obtain ⟨⟨a1, a2, a3, a4⟩, ⟨a12, a13, a14⟩, ⟨a23, a24⟩, a34⟩ := hnd
    have b02 : But [] H H2 := bt_but (But.of_same s1) b2 (bc_fr hd bc_nil)
    have ha2 : H2 a = some (.lst xs) := b02.at ha List.not_mem_nil
    have fls : Fr [l1, l2, l3, l4] H := fun t ht => (But.of_same (S := []) s1).free (hls t ht)
    have na : a ≠ d := fun z => live_of ha (z ▸ hd)
    clear b2 s1
    repeat walk_at "s"
    refine r_listL (.of ha2) (fun l5 H3 hl5 s3 hl53 => ?_)
    repeat walk_at "s"
    refine r_setAt (s3 _ _ g0) cl n1 (Nat.le_of_ble_eq_true rfl) (fun H4 b4 g04 => ?_)
    repeat walk_at "s"
    have ha4 : H4 a = some (.lst xs) := b4.at (s3 _ _ ha2) (by simpa using na)
    refine r_listL (.of ha4) (fun l6 H5 hl6 s5 hl65 => ?_)
    repeat walk_at "s"
    refine r_setAt (s5 _ _ g04) cl n2 (Nat.le_of_ble_eq_true rfl) (fun H6 b6 g06 => ?_)
    repeat walk_at "s"
    have lvd : H2 d ≠ none := live_of g0
    have lvd4 : H4 d ≠ none := live_of g04
    have e53 : l5 ≠ d := fun z => lvd (z ▸ hl5)
    have e63 : l6 ≠ d := fun z => lvd4 (z ▸ hl6)
    have e56 : l5 ≠ l6 := fun z => live_of (b4.at hl53 (by simpa using e53)) (z ▸ hl6)
    have c3 : l3 ≠ d := Ne.symm a3
    have c4 : l4 ≠ d := Ne.symm a4
    have g34 : H4 l3 = some (.lst x3) := b4.at (s3 _ _ g3) (by simpa using c3)
    have g44 : H4 l4 = some (.lst x4) := b4.at (s3 _ _ g4) (by simpa using c4)
    have e35 : l5 ≠ l3 := fun z => live_of g3 (z ▸ hl5)
    have e45 : l5 ≠ l4 := fun z => live_of g4 (z ▸ hl5)
    have e36 : l6 ≠ l3 := fun z => live_of g34 (z ▸ hl6)
    have e46 : l6 ≠ l4 := fun z => live_of g44 (z ▸ hl6)
    have f5 : H6 l5 = some (.lst xs) := b6.at (s5 _ _ (b4.at hl53 (by simpa using e53))) (by simpa using e53)
    have f6 : H6 l6 = some (.lst xs) := b6.at hl65 (by simpa using e63)
    have f3 : H6 l3 = some (.lst x3) := b6.at (s5 _ _ g34) (by simpa using c3)
    have f4 : H6 l4 = some (.lst x4) := b6.at (s5 _ _ g44) (by simpa using c4)
    have b26 : But [d] H2 H6 := ((But.of_same s3).trans b4).trans ((But.of_same s5).trans b6)
    have b06 : But [] H H6 := bt_but b02 b26 (bc_fr hd bc_nil)
    have x30 : x3 = [] := v3.nil_inv
    have x40 : x4 = [] := v4.nil_inv
    subst x30
    subst x40
    have hx6 : DnAll K [] H6 xs vals := hx.nlb nlv b06
    have fr5 : H l5 = none := b02.free hl5
    have fr6 : H l6 = none := (bt_but b02 ((But.of_same s3).trans b4) (bc_fr hd bc_nil) : But [] H H4).free hl6
    refine k d [l5, l6, l3, l4] H6 ?_ b06.same ⟨⟨h1, h2, rfl, rfl, hb, hb, by simp, by simp, Nat.le_refl _, Nat.le_refl _⟩, dx', l5, l6, l3, l4, xs, xs, [], [], rfl, ?_, g06, f5, f6, f3, f4, hx6, hx6, .nil, .nil⟩
    · intro t ht
      simp only [List.mem_cons, List.not_mem_nil, or_false] at ht
      rcases ht with rfl | rfl | rfl | rfl | rfl
      · exact hd
      · exact fr5
      · exact fr6
      · exact fls _ (by simp)
      · exact fls _ (by simp)
    · simp only [List.nodup_cons, List.mem_cons, List.not_mem_nil, or_false, not_or, not_false_eq_true, List.nodup_nil, and_true]
      exact ⟨⟨e53.symm, e63.symm, a3, a4⟩, ⟨e56, e35, e45⟩, ⟨e36, e46⟩, a34⟩
def spCrashed (K : PySem.W.Frag) (CDisk : Addr) : Sp := fun vs H Q _ => ∃ (d a : Addr) (fd : List Addr) (n m : Nat) (D : DM) (ns : List Nat), vs = [.ref d, .ref a] ∧ DiskAt K CDisk H d fd n m D ∧ H a = some (.lst (ns.map fun i : Nat => V.int i)) ∧ Choice D.writes.length ns ∧ m ≤ 100000 ∧
  ∀ e ls H', Fr (e :: ls) H → Same H H' → DiskAt K CDisk H' e (e :: ls) n 0 (D.crash ns) → Q (.ref e) H'
theorem keepW_mem {D : DM} {ns : List Nat} (h : Choice D.writes.length ns) {u : Int × PyData} (hu : u ∈ D.keepW ns) : u ∈ D.writes := by
  obtain ⟨i, hi, rfl⟩ := List.mem_map.mp hu
  rw [List.getD_eq_getElem?_getD, List.getElem?_eq_getElem (h.hi i hi)]
  exact List.getElem_mem (h.hi i hi)
abbrev s_Disk_crashed : Stmt := inClass (top 22) 10
abbrev N_Disk_crashed : List Str := ["self", "kept", "values", "at", "block", "value"]
theorem sc_Disk_crashed : FnScope N_Disk_crashed ["self", "kept"] (defScope s_Disk_crashed) :=
  ⟨rfl, rfl, rfl, by decide +kernel, rfl, by decide +kernel, by decide +kernel⟩

theorem ok_Disk_crashed {f : Addr} {fd : FuncData} (F : Fun K "crashed" "Disk.crashed" s_Disk_crashed f fd) (B : Bl mg) (T : TDisk K CDisk) (C_check_choice : Cl P w K mg base CX0 3 "check_choice" (spChoice K)) (C_beginning_with : Cl P w K mg base CX0 5 "beginning_with" (spBegin K CDisk)) :
    FnOk P w K mg base CX0 6 f fd ["self", "kept"] (spCrashed K CDisk) := by
  refine F.ok sc_Disk_crashed (fun vs H Q E h => ?_) (fun cdv A outer s H vs Q E hr h => ?_)
  · obtain ⟨_, _, _, _, _, _, _, rfl, _⟩ := h
    rfl
  · obtain ⟨d, a, fd, n, m, D, ns, rfl, hD, ha, hc, hm, k⟩ := h
    obtain ⟨ok, dx, l1, l2, l3, l4, x1, x2, x3, x4, rfl, hnd, h0, h1, h2, h3, h4, v1, v2, v3, v4⟩ := id hD
    have nd := sc_Disk_crashed.nd
    obtain ⟨cl, n1, n2, n3, n4⟩ := T
    have x3l : x3.length = D.writes.length := by rw [v3.length, List.length_map]
    refine ⟨_, (pss_cons (ps_expr (pe_cl (E := fun _ => E0) C_check_choice hr (by decide) pass00 (pa_cons (pv 1) (pa_cons (pe_callB (call_lenA (K := K)) rfl B.len PySem.boot_len (pa_cons (pe_fldA (K := K) (pv 0)) pa_nil)) pa_nil))))
      (pss_cons (ps_set (i := 2) nd rfl (by first | exact Or.inl rfl | exact Or.inr rfl) (pe_callTy (call_listA (K := K)) rfl B.list (by decide +kernel) (pa_cons (pe_fldA (K := K) (pv 0)) pa_nil)))
      (pss_cons (ps_for PassesOwn.never rfl (pi_lst (K := K) (pv 1)) (pg_name (i := 3) nd rfl (by first | exact Or.inl rfl | exact Or.inr rfl))
      (pss_cons (ps_asg (pe_ix (ix_any (K := K)) (pe_fldA (K := K) (pv 0)) (pv 3) (fun _ _ => rfl)) (pg_tpl (K := K) rfl (pgs_cons (pg_name (i := 4) nd rfl (by first | exact Or.inl rfl | exact Or.inr rfl)) (pgs_cons (pg_name (i := 5) nd rfl (by first | exact Or.inl rfl | exact Or.inr rfl)) pgs_nil))))
      (pss_one (ps_asg (pv 5) (pg_sub (pv 2) (pv 4) set_list)))))
      (pss_one (ps_ret (pe_cl (E := fun _ => E0) C_beginning_with hr (by decide) pass00 (pa_cons (pv 2) pa_nil))))))), ?_⟩
    repeat walk_at "s"
    rw [x3l]
    refine ⟨a, ns, _, rfl, ha, hc, fun H1 s1 => ?_⟩
    repeat walk_at "s"
    refine r_listL (.of (s1 _ _ h2)) (fun l H2 hl s2 hl2 => ?_)
    have s02 : Same H H2 := fun b o e => s2 b o (s1 b o e)
    have fl : H l = none := (But.of_same (S := []) s1).free hl
    have nal : a ≠ l := ne_of_none ha fl
    have n3l : l3 ≠ l := ne_of_none h3 fl
    clear s1 s2
    repeat walk_at "s"
    refine forL (.of (s02 _ _ ha)) (fun i σ H' => ∃ o3 o4 o5 ys, σ = [some (.ref d), some (.ref a), some (.ref l), o3, o4, o5] ∧ But [l] H2 H' ∧ H' l = some (.lst ys) ∧ DnAll K [] H' ys (putAll ((D.keepW ns).take i) D.safe))
      ⟨_, _, _, _, rfl, .refl, hl2, v2.same s02⟩ ?_ ?_ ?_
    · rintro i σ H3 hi ⟨o3, o4, o5, ys, rfl, b3, hl3, hys⟩
      exact .of (b3.at (s02 _ _ ha) (by simpa using nal))
    · rintro i x σ H3 hi ⟨o3, o4, o5, ys, rfl, b3, hl3, hys⟩
      obtain ⟨j, hj, rfl⟩ := map_getG hi
      have hjm := List.mem_of_getElem? hj
      have hjl := hc.hi j hjm
      have hku : (D.keepW ns)[i]? = some (D.writes.getD j (0, .none)) := by
        unfold DM.keepW
        rw [List.getElem?_map, hj]; rfl
      generalize hu : D.writes.getD j (0, .none) = u at hku
      have hu2 : D.writes[j]? = some u := by
        rw [← hu, List.getD_eq_getElem?_getD, List.getElem?_eq_getElem hjl]; rfl
      obtain ⟨y, hy, hyd⟩ := v3.getD (i := j) (d := dWr u) (by rw [List.getElem?_map, hu2]; rfl)
      obtain ⟨p, z, rfl, hp, hz⟩ := wr_inv hyd
      obtain ⟨hb0, hb1, hvv⟩ := ok.wv u (List.mem_of_getElem? hu2)
      obtain ⟨bn, hbn⟩ := Int.eq_ofNat_of_zero_le hb0
      have yl : ys.length = n := by rw [hys.length, putAll_length, ok.sl]
      have b03 : But [l] H H3 := (But.of_same s02).trans b3
      have h33 : H3 l3 = some (.lst x3) := b3.at (s02 _ _ h3) (by simpa using n3l)
      have nd_ : d ≠ l := ne_of_none h0 fl
      have h03 : H3 d = some (.ins CDisk dx (diskF l1 l2 l3 l4)) := b3.at (s02 _ _ h0) (by simpa using nd_)
      have hp3 : SqT K H3 p [.int u.1, z] := b03.sqT hp
      have step : putAll ((D.keepW ns).take (i + 1)) D.safe = (putAll ((D.keepW ns).take i) D.safe).set u.1.toNat u.2 := foldl_takeG hku
      repeat walk_at "s"
      refine r_ixL (.of h33) (atI_nat hy) ?_
      repeat walk_at "s"
      rw [hbn]
      refine s_lst hl3 (ixN_nat (by omega)) (fun H4 b4 hl4 => ?_)
      refine ⟨_, _, _, _, rfl, b3.trans b4, hl4, ?_⟩
      rw [step, hbn, Int.toNat_natCast]
      have nls : noLs (putAll ((D.keepW ns).take i) D.safe) = true := noLs_all.mpr fun z hz => by
        rcases putAll_mem hz with hz | ⟨q, hq, rfl⟩
        · exact blockB_nol (ok.sv z hz)
        · exact blockB_nol (ok.wv q (keepW_mem hc (List.mem_of_mem_take hq))).2.2
      exact DnAll.set bn (hys.nlb nls b4) (hz.nlb (blockB_nol hvv) (b03.trans b4))
    · rintro σ H3 ⟨o3, o4, o5, ys, rfl, b3, hl3, hys⟩
      have e3 : (D.keepW ns).length = ns.length := List.length_map ..
      rw [List.length_map, ← e3, List.take_length] at hys
      have s03 : Same H H3 := (bt_but (But.of_same s02) b3 (bc_fr fl bc_nil) : But [] H H3).same
      clear b3 s02
      repeat walk_at "s"
      have vl : (putAll (D.keepW ns) D.safe).length = n := by rw [putAll_length, ok.sl]
      refine ⟨l, ys, _, rfl, hl3, hys, fun v hv => ?_, by have := ok.n1; omega, by have := ok.n2; omega, fun e ls H4 hf s4 hE => ?_⟩
      · rcases putAll_mem hv with hv | ⟨q, hq, rfl⟩
        · exact ok.sv v hv
        · exact (ok.wv q (keepW_mem hc hq)).2.2
      · rw [vl] at hE
        exact k e ls H4 (fun t ht => (But.of_same (S := []) s03).free (hf t ht)) (fun b o e => s4 b o (s03 b o e)) hE
end
end L02

open PySem L2 PyProof.Rows J

namespace L02
section
variable {P : Program} {w : World} {K : PySem.W.Frag} {mg : Str → Option Value} {base : Heap} {CDisk CLayout : Addr}
def spAfter (K : PySem.W.Frag) (CDisk : Addr) : Sp := fun vs H Q _ => ∃ (d : Addr) (fd : List Addr) (n m : Nat) (D : DM) (i : Nat), vs = [.ref d, .int i] ∧ DiskAt K CDisk H d fd n m D ∧ i ≤ D.deeds.length ∧ m ≤ 100000 ∧
  ∀ e ls H', Fr (e :: ls) H → Same H H' → DiskAt K CDisk H' e (e :: ls) n i (D.after i) → Q (.ref e) H'
theorem ev_inv {S : List Addr} {H : Hp} {v : V} {u : Option (Int × PyData)} (h : Dn K S H v (dEv u)) : ∃ p, v = .ref p ∧ match u with
    | some u => ∃ x, SqT K H p [.str "write", .int u.1, x] ∧ Dn K S H x u.2
    | none => SqT K H p [.str "flush"] := by
  cases u with
  | none =>
    obtain ⟨p, xs, rfl, h1, h2⟩ := Dn.tup_inv (ds := [.str "flush"]) h
    obtain ⟨a, _, rfl, h3, h4⟩ := h2.cons_inv
    obtain rfl := h4.nil_inv
    obtain rfl := h3.str_inv
    exact ⟨p, rfl, h1⟩
  | some u =>
    obtain ⟨p, xs, rfl, h1, h2⟩ := Dn.tup_inv (ds := [.str "write", .int u.1, u.2]) h
    obtain ⟨a, _, rfl, h3, h4⟩ := h2.cons_inv
    obtain ⟨b, _, rfl, h5, h6⟩ := h4.cons_inv
    obtain ⟨x, _, rfl, h7, h8⟩ := h6.cons_inv
    obtain rfl := h8.nil_inv
    obtain rfl := h3.str_inv
    obtain rfl := h5.int_inv
    exact ⟨p, rfl, x, h1, h7⟩
abbrev s_Disk_after : Stmt := inClass (top 22) 9
abbrev N_Disk_after : List Str := ["self", "many", "other", "event"]
theorem sc_Disk_after : FnScope N_Disk_after ["self", "many"] (defScope s_Disk_after) :=
  ⟨rfl, rfl, rfl, by decide +kernel, rfl, by decide +kernel, by decide +kernel⟩

theorem ok_Disk_after {f : Addr} {fd : FuncData} (F : Fun K "after" "Disk.after" s_Disk_after f fd) (B : Bl mg) (T : TDisk K CDisk) (C_is_between : ClK P w K mg base CX0 2 "is_between" 1 ["low", "high"] (spBet K)) (C_beginning_with : Cl P w K mg base CX0 5 "beginning_with" (spBegin K CDisk))
    (M_Disk_write : C8.Met P w K mg base 12 CDisk "write" (spWrite K CDisk) []) (M_Disk_flush : C8.Met P w K mg base 1 CDisk "flush" (spFlush K CDisk) []) :
    FnOk P w K mg base CX0 13 f fd ["self", "many"] (spAfter K CDisk) := by
  refine F.ok sc_Disk_after (fun vs H Q E h => ?_) (fun cdv A outer s H vs Q E hr h => ?_)
  · obtain ⟨_, _, _, _, _, _, rfl, _⟩ := h
    rfl
  · obtain ⟨d, fd, n, m, D, many, rfl, hD, hmany, hm, k⟩ := h
    obtain ⟨ok, dx, l1, l2, l3, l4, x1, x2, x3, x4, rfl, hnd, h0, h1, h2, h3, h4, v1, v2, v3, v4⟩ := id hD
    have hu := hu_of hr
    have nd := sc_Disk_after.nd
    obtain ⟨cl, n1, n2, n3, n4⟩ := T
    have x4l : x4.length = D.deeds.length := by rw [v4.length, List.length_map]
    have dl := ok.dl
    refine ⟨_, (pss_cons (ps_if (pt_not (pt_tru (K := K) (pe_clK C_is_between hr (by decide) (pa_cons (pv 1) pa_nil) (pk_cons pe_int (pk_cons (pe_callB (call_lenA (K := K)) rfl B.len PySem.boot_len (pa_cons (pe_fldA (K := K) (pv 0)) pa_nil)) pk_nil))))) (pss_one (ps_dead)) pss_nil)
      (pss_cons (ps_set (i := 2) nd rfl (by first | exact Or.inl rfl | exact Or.inr rfl) (pe_cl (E := fun _ => E0) C_beginning_with hr (by decide) pass00 (pa_cons (pe_fldA (K := K) (pv 0)) pa_nil)))
      (pss_cons (ps_for PassesOwn.never rfl (pi_lst (K := K) (pe_slice (sl_any (K := K)) (pe_fldA (K := K) (pv 0)) po_none (po_some (pv 1)))) (pg_name (i := 3) nd rfl (by first | exact Or.inl rfl | exact Or.inr rfl))
      (pss_one (ps_if (pt_cmpR (op_eqA (K := K) hr.units) (pe_ix (ix_any (K := K)) (pv 3) pe_int (fun _ _ => rfl)) pe_str (nomark _)) (pss_one (ps_expr (C8.pe_mt M_Disk_write hr (by decide) (pv 2) (pa_cons (pe_ix (ix_any (K := K)) (pv 3) pe_int (fun _ _ => rfl)) (pa_cons (pe_ix (ix_any (K := K)) (pv 3) pe_int (fun _ _ => rfl)) pa_nil))))) (pss_one (ps_expr (C8.pe_mt0 M_Disk_flush hr (by decide) (pv 2)))))))
      (pss_one (ps_ret (pv 2)))))), ?_⟩
    repeat walk_at "s"
    rw [x4l]
    refine ⟨_, [], .int many, 0, _, rfl, .int _, ?_⟩
    rw [bet_iff.mpr ⟨by omega, by omega⟩]
    repeat walk_at "s"
    refine r_iteF rfl ?_
    repeat walk_at "s"
    refine ⟨l1, x1, D.first, rfl, h1, v1, ok.fv, by rw [ok.fl]; exact ok.n1, by rw [ok.fl]; exact ok.n2, fun e ls H1 hf s1 hE => ?_⟩
    rw [ok.fl] at hE
    generalize hfe : e :: ls = fe at hf hE
    have nfe : ∀ {z : Addr}, H z ≠ none → z ∉ fe := fun h z => h (hf _ z)
    have h01 := s1 _ _ h0
    have h41 := s1 _ _ h4
    repeat walk_at "s"
    refine r_slL (.of h41) (fun q H2 hq s2 hq2 => ?_)
    rw [cut_to] at hq2
    have ql : (x4.take many).length = many := by rw [List.length_take]; omega
    have nqfe : q ∉ fe := fun z => hE.live q z hq
    have s02 : Same H H2 := fun b o h => s2 b o (s1 b o h)
    have v42 : DnAll K [] H2 (x4.take many) ((D.deeds.map dEv).take many) := (v4.same s02).take many
    have nl4 : noLs ((D.deeds.map dEv).take many) = true := noLs_all.mpr fun z hz => noLs_all.mp ok.nl4 z (List.mem_of_mem_take hz)
    refine forL (.of hq2) (fun i σ H' => ∃ o3, σ = [some (.ref d), some (.int many), some (.ref e), o3] ∧ But fe H2 H' ∧ DiskAt K CDisk H' e fe n i (DM.play ⟨D.first, D.first, [], []⟩ (D.deeds.take i)))
      ⟨_, rfl, .refl, hE.same s2⟩ ?_ ?_ ?_
    · rintro i σ H3 hi ⟨o3, rfl, b3, hE3⟩
      exact .of (b3.at hq2 nqfe)
    · rintro i x σ H3 hi ⟨o3, rfl, b3, hE3⟩
      have him : i < many := by
        have := (List.getElem?_eq_some_iff.mp hi).1
        omega
      obtain ⟨dd, hdd, hdn⟩ := v42.get hi
      rw [List.getElem?_take_of_lt him] at hdd
      obtain ⟨u, hu', rfl⟩ := map_getG hdd
      obtain ⟨p, rfl, hp⟩ := ev_inv hdn
      have step : DM.play ⟨D.first, D.first, [], []⟩ (D.deeds.take (i + 1)) = (DM.play ⟨D.first, D.first, [], []⟩ (D.deeds.take i)).ev u := foldl_takeG hu'
      obtain ⟨dx', k1, k2, k3, k4, y1, y2, y3, y4, efe, hnd', g0, _⟩ := hE3.ex
      cases u with
      | none =>
        have hp3 : SqT K H3 p [.str "flush"] := b3.sqT hp
        repeat walk_at "s"
        refine r_iteF (by decide +kernel) ?_
        repeat walk_at "s"
        refine r_methAt g0 (by with_unfolding_all rfl) ?_
        repeat walk_at "s"
        refine ⟨e, fe, _, _, _, rfl, hE3, by omega, fun H4 b4 hE4 => ?_⟩
        refine ⟨_, rfl, b3.trans b4, ?_⟩
        rw [step]
        exact hE4
      | some u =>
        obtain ⟨y, hp1, hy⟩ := hp
        have hp3 : SqT K H3 p [.str "write", .int u.1, y] := b3.sqT hp1
        obtain ⟨hb0, hb1, hbl⟩ := ok.dv u (List.mem_of_getElem? hu')
        repeat walk_at "s"
        refine r_iteT (by decide +kernel) ?_
        repeat walk_at "s"
        refine r_methAt g0 (by with_unfolding_all rfl) ?_
        repeat walk_at "s"
        refine ⟨e, fe, _, _, _, _, y, [], u.2, rfl, hE3, by omega, hb0, hb1, hy.nlb (blockB_nol hbl) b3, hbl, fun H4 b4 hE4 => ?_⟩
        refine ⟨_, rfl, b3.trans b4, ?_⟩
        rw [step]
        exact hE4
    · rintro σ H3 ⟨o3, rfl, b3, hE3⟩
      rw [ql] at hE3
      repeat walk_at "s"
      have s03 : Same H H3 := (bt_but (But.of_same s02) b3 (fun t ht => .inr (hf t ht)) : But [] H H3).same
      rw [← hfe] at hf hE3
      exact k e ls H3 hf s03 hE3
end
end L02

open PySem L2 PyProof.Rows J
local macro_rules | `(tactic| walk_at "mv") => `(tactic| with_reducible first
  | exact (J.mv_slots ..) | exact (J.mv_homes ..) | exact (J.mv_next ..) | exact (J.mv_head ..) | exact (J.mv_kept ..) | exact (J.mv_copies ..) | exact (J.mv_revokes ..) | exact (J.mv_rule ..) | exact (J.mv_disk ..) | exact (J.mv_events ..)
  | exact (J.kv_number ..) | exact (J.kv_size ..) | exact (J.kv_copies ..) | exact (J.kv_revokes ..) | exact (J.kv_slot ..) | exact (J.kv_left ..))
local macro_rules | `(tactic| walk_at "s") => `(tactic| first
  | with_reducible refine J.r_pcons ?_
  | with_reducible refine J.r_pnil ?_
  | ((with_reducible apply J.r_dAtS); (walk_at "hp"); (walk_at "mv")))

namespace L02
section
variable {P : Program} {w : World} {K : PySem.W.Frag} {mg : Str → Option Value} {base : Heap} {CDisk CBC CBX : Addr}
theorem takes0 {X : Cx} : Takes X (fun _ _ _ _ => False) := fun _ _ x => by
  obtain ⟨_, _, _, _, _, _, _, _, _, _, _, _, _, _, _, _, z⟩ := x
  exact z.elim
theorem Raised.from {C : Addr} {fs : List (Str × V)} {H H1 : Hp} {E : XK} (r : Raised C fs H E) (s : Same H H1) : Raised C fs H1 E := fun dd H' h1 h2 h3 => r dd H' ((But.of_same (S := []) s).free h1) (fun b o e => h2 b o (s b o e)) h3
def atF (x : V) : List (Str × V) := [("at", x), ("why", .str "choice")]
abbrev s_BadChoice_init : Stmt := inClass (top 6) 0
abbrev N_BadChoice_init : List Str := ["self", "at"]
theorem sc_BadChoice_init : FnScope N_BadChoice_init ["self", "at"] (defScope s_BadChoice_init) :=
  ⟨rfl, rfl, rfl, by decide +kernel, rfl, by decide +kernel, by decide +kernel⟩
theorem ok_BadChoice_init {f : Addr} {fd : FuncData} (F : Fun K "__init__" "BadChoice.__init__" s_BadChoice_init f fd) (N_LogError_init : CFn P w K mg base CX0 1 "LogError" "__init__" (spX K ["why"] foWhy)) :
    FnOk P w K mg base CX0 2 f fd ["self", "at"] (spX K ["why", "at"] (fo1 "at" "choice")) := by
  refine F.ok sc_BadChoice_init (fun vs H Q E h => ?_) (fun cdv A outer s H vs Q E hr h => ?_)
  · obtain ⟨a, C, ws, fs, rfl, hf, _⟩ := h
    match ws, hf with
    | [x], _ => rfl
  · obtain ⟨a, C, ws, fs, rfl, hf, T, hn, ha, k⟩ := h
    obtain ⟨x, rfl, rfl⟩ : ∃ x, ws = [x] ∧ fs = [(("at" : Str), x), ("why", .str "choice")] := by
      match ws, hf with
      | [x], hf => exact ⟨x, rfl, (Option.some.inj hf).symm⟩
    have nd := sc_BadChoice_init.nd
    refine ⟨_, (pss_cons (ps_expr (pe_cfn (E := fun _ => E0) N_LogError_init hr (by decide) pass00 (pa_cons (pv 0) (pa_cons pe_str pa_nil))))
      (pss_one (ps_ost (pv 0) (pv 1)))), ?_⟩
    repeat walk_at "s"
    refine ⟨a, C, [.str "choice"], _, rfl, rfl, T, fun n h => hn n (by rw [List.mem_singleton.mp h]; exact List.mem_cons_self), ha, fun dx H1 hd hda h1 h2 h3 => ?_⟩
    repeat walk_at "s"
    refine ⟨a, C, rfl, T, hn "at" (by simp), .inr ⟨dx, _, h1, h2, Nat.le_of_ble_eq_true rfl, ?_⟩⟩
    refine k dx _ hd hda ?_ upd_same (fun b hb hb2 => ?_)
    · rw [upd_ne (Ne.symm hda)]; exact h1
    · rw [upd_ne hb2, h3 b hb hb2]

/-! ### choices refused -/
theorem r_isLst {H : Hp} {Q : VK} {a : Addr} {xs : List V} (h : H a = some (.lst xs)) (k : Q (.bl true) H) : rIsi K [.ref a, .ty "list"] H Q :=
  ⟨.ref a, _, _, _, true, rfl, .ty "list", .base (.lst h), kit_ty (kit_list (.list [])), k⟩
/-- the least index that may follow -/
def lowOf (ns : List Nat) : Int := match ns.getLast? with
  | some l => (l : Int) + 1
  | none => 0
theorem lowOf_snoc {ns : List Nat} {n : Nat} : lowOf (ns ++ [n]) = (n : Int) + 1 := by
  unfold lowOf
  rw [List.getLast?_append]; rfl
theorem lowOf_nn (ns : List Nat) : 0 ≤ lowOf ns := by
  unfold lowOf
  split
  · omega
  · omega
theorem lowOf_le {c : Nat} {ns : List Nat} {i n : Nat} (h : Choice c ns) (hn : ns[i]? = some n) : lowOf (ns.take i) ≤ n := by
  obtain ⟨hlt, e⟩ := List.getElem?_eq_some_iff.mp hn
  unfold lowOf
  split
  · rename_i l hl
    have hm : l ∈ ns.take i := List.mem_of_getLast? hl
    have hs : ns = ns.take i ++ n :: ns.drop (i + 1) := by
      rw [← e, ← List.drop_eq_getElem_cons hlt, List.take_append_drop]
    have hp := h.up
    rw [hs] at hp
    have := (List.pairwise_append.mp hp).2.2 l hm n List.mem_cons_self
    omega
  · omega
/-- what is wrong with a choice: no list, or the first index that does not ascend below the count -/
def BadCh (K : PySem.W.Frag) (S : List Addr) (H : Hp) (x : V) (c : Nat) (at_ : V) : Prop :=
  (∃ d, OdV K S H x d ∧ isListD d = false ∧ at_ = .non) ∨
  ∃ (a : Addr) (vs : List V) (ns : List Nat) (bad : V) (bd : PyData), x = .ref a ∧ H a = some (.lst vs) ∧ vs.length ≤ 1000 ∧ (∃ r, vs = (ns.map fun i : Nat => V.int i) ++ bad :: r) ∧ Choice c ns ∧ Dn K S H bad bd ∧ betB bd (lowOf ns) ((c : Int) - 1) = false ∧ at_ = .int ns.length
def spChoiceF (K : PySem.W.Frag) (CBX : Addr) : Sp := fun vs H _ E => ∃ (x : V) (S : List Addr) (c : Nat) (at_ : V), vs = [x, .int c] ∧ BadCh K S H x c at_ ∧ ∀ H', Same H H' → Raised CBX (atF at_) H' E
theorem ok_check_choiceF {f : Addr} {fd : FuncData} (F : Fun K "check_choice" "check_choice" s_check_choice f fd) (B : Bl mg) (C_is_between : ClK P w K mg base CX0 2 "is_between" 1 ["low", "high"] (spBetO K)) (X_BadChoice : XErr P w K mg base "BadChoice" "at" "choice" CBX)
    (XN : ∀ n ∈ (["why", "at"] : List Str), PySem.W.findIn K (.ref CBX) n = some none) :
    FnOk P w K mg base (L2.CX P w) 4 f fd ["kept", "count"] (spChoiceF K CBX) := by
  refine F.okX sc_check_choice (fun vs H Q E h => ?_) (fun cdv A outer s H vs Q E hr h => ?_)
  · obtain ⟨_, _, _, _, rfl, _⟩ := h
    rfl
  · obtain ⟨x, S, c, at_, rfl, hb, k⟩ := h
    have hu := hu_of hr
    have nd := sc_check_choice.nd
    obtain ⟨_, _, _, _, oT, _⟩ := X_BadChoice.ex
    refine ⟨_, (pss_cons (ps_if (pt_not (pt_tru (K := K) (pe_callB (call_isiA (K := K)) rfl B.isinstance (by decide +kernel) (pa_cons (pv 0) (pa_cons (pe_tyN (T := "list") rfl B.list (by decide +kernel)) pa_nil))))) (pss_one (ps_raise rfl (takes_of rfl rfl rfl rfl) (pmk_x X_BadChoice hr (by decide) (pa_cons pe_non pa_nil)))) pss_nil)
      (pss_cons (ps_set (i := 2) nd rfl (by first | exact Or.inl rfl | exact Or.inr rfl) (pe_un un_neg pe_int))
      (pss_one (ps_for (passes_of rfl) rfl (pi_enum rfl B.enumerate (pa_cons (pv 0) pa_nil)) (pg_tpl (K := K) rfl (pgs_cons (pg_name (i := 3) nd rfl (by first | exact Or.inl rfl | exact Or.inr rfl)) (pgs_cons (pg_name (i := 4) nd rfl (by first | exact Or.inl rfl | exact Or.inr rfl)) pgs_nil)))
      (pss_cons (ps_if (pt_not (pt_tru (K := K) (pe_clK C_is_between hr (by decide) (pa_cons (pv 4) pa_nil) (pk_cons (pe_op (op_addA (K := K)) (pv 2) pe_int) (pk_cons (pe_op op_sub (pv 1) pe_int) pk_nil))))) (pss_one (ps_raise rfl (takes_of rfl rfl rfl rfl) (pmk_x X_BadChoice hr (by decide) (pa_cons (pv 3) pa_nil)))) pss_nil)
      (pss_one (ps_set (i := 2) nd rfl (by first | exact Or.inl rfl | exact Or.inr rfl) (pv 4)))))))), ?_⟩
    repeat walk_at "s"
    rcases hb with ⟨d, hx, hl, rfl⟩ | ⟨a, vs, ns, bad, bd, rfl, ha, hvl, ⟨r, hr⟩, hc, hbd, hbt, rfl⟩
    · refine od_isList hx ?_
      rw [hl]
      repeat walk_at "s"
      refine r_iteT rfl ?_
      repeat walk_at "s"
      exact r_mkX ⟨Nat.le_of_ble_eq_true rfl, _, rfl, oT, XN, fun dd H' h1 h2 h3 => k H (fun _ _ e => e) dd H' h1 h2 h3⟩
    · refine r_isLst ha ?_
      repeat walk_at "s"
      refine r_iteF rfl ?_
      repeat walk_at "s"
      refine r_U ?_
      repeat walk_at "s"
      have hg : ∀ i (n : Nat), ns[i]? = some n → vs[i]? = some (V.int n) := fun i n hi => by
        have hlt := (List.getElem?_eq_some_iff.mp hi).1
        rw [hr, List.getElem?_append_left (by rw [List.length_map]; exact hlt), List.getElem?_map, hi]; rfl
      have hgb : vs[ns.length]? = some bad := by
        rw [hr, List.getElem?_append_right (by rw [List.length_map]; exact Nat.le_refl _), List.length_map, Nat.sub_self]; rfl
      refine forE (.of ha) (fun i σ H' => ∃ o3 o4, σ = [some (.ref a), some (.int c), some (.int (lowOf (ns.take i) - 1)), o3, o4] ∧ Same H H' ∧ i ≤ ns.length)
        ⟨_, _, rfl, fun _ _ e => e, Nat.zero_le _⟩ ?_ ?_ ?_
      · rintro i σ H1 hi ⟨o3, o4, rfl, s1, _⟩
        exact .of (s1 _ _ ha)
      · rintro i x σ H1 hi ⟨o3, o4, rfl, s1, hin⟩ T H2 hT s2 hT2
        have s02 : Same H H2 := fun b o e => s2 b o (s1 b o e)
        have el : lowOf (ns.take i) - 1 + 1 = lowOf (ns.take i) := by omega
        by_cases hlt : i < ns.length
        · obtain ⟨n, hn⟩ : ∃ n, ns[i]? = some n := ⟨_, List.getElem?_eq_getElem hlt⟩
          have hx := (hg i n hn).symm.trans hi
          obtain rfl := Option.some.inj hx
          have h1 := lowOf_le hc hn
          have h2 := hc.hi n (List.mem_of_getElem? hn)
          repeat walk_at "s"
          rw [el]
          refine ⟨_, [], .int n, lowOf (ns.take i), _, rfl, .dat (.int _), ?_⟩
          rw [bet_iff.mpr ⟨h1, by omega⟩]
          repeat walk_at "s"
          refine r_iteF rfl ?_
          repeat walk_at "s"
          have et : ns.take (i + 1) = ns.take i ++ [n] := by rw [List.take_add_one, hn]; rfl
          have e2 : lowOf (ns.take (i + 1)) - 1 = (n : Int) := by rw [et, lowOf_snoc]; omega
          exact ⟨_, _, by rw [e2]; rfl, s02, by omega⟩
        · have e : i = ns.length := by omega
          subst e
          have hx := hgb.symm.trans hi
          obtain rfl := Option.some.inj hx
          have hbd2 := hbd.same s02
          rw [List.take_length] at el ⊢
          repeat walk_at "s"
          rw [el]
          refine ⟨_, S, bd, lowOf ns, _, rfl, .dat hbd2, ?_⟩
          rw [hbt]
          repeat walk_at "s"
          refine r_iteT rfl ?_
          repeat walk_at "s"
          exact r_mkX ⟨Nat.le_of_ble_eq_true rfl, _, rfl, oT, XN, fun dd H' h1 h2 h3 => k H2 s02 dd H' h1 h2 h3⟩
      · rintro σ H1 ⟨o3, o4, rfl, s1, hin⟩
        have : ns.length < vs.length := (List.getElem?_eq_some_iff.mp hgb).1
        omega
end
end L02

open PySem L2 PyProof.Rows J


namespace L02
section
variable {P : Program} {w : World} {K : PySem.W.Frag} {mg : Str → Option Value} {base : Heap} {CDisk CBC CBX : Addr}
/-! ### after, crashed: what is refused -/
def spAfterF (K : PySem.W.Frag) (CDisk CBC : Addr) : Sp := fun vs H _ E => ∃ (d : Addr) (fd : List Addr) (n m : Nat) (D : DM) (x : V) (S : List Addr) (dx : PyData), vs = [.ref d, x] ∧ DiskAt K CDisk H d fd n m D ∧ OdV K S H x dx ∧ betB dx 0 (D.deeds.length : Int) = false ∧ Raised CBC (countF x) H E
theorem ok_Disk_afterF {f : Addr} {fd : FuncData} (F : Fun K "after" "Disk.after" s_Disk_after f fd) (B : Bl mg) (T : TDisk K CDisk) (C_is_between : ClK P w K mg base CX0 2 "is_between" 1 ["low", "high"] (spBetO K)) (X_BadCount : XErr P w K mg base "BadCount" "count" "count" CBC)
    (XN : ∀ n ∈ (["why", "count"] : List Str), PySem.W.findIn K (.ref CBC) n = some none) (C_beginning_with : Cl P w K mg base CX0 5 "beginning_with" (spBegin K CDisk))
    (M_Disk_write : C8.Met P w K mg base 12 CDisk "write" (spWrite K CDisk) []) (M_Disk_flush : C8.Met P w K mg base 1 CDisk "flush" (spFlush K CDisk) []) :
    FnOk P w K mg base (L2.CX P w) 13 f fd ["self", "many"] (spAfterF K CDisk CBC) := by
  refine F.okX sc_Disk_after (fun vs H Q E h => ?_) (fun cdv A outer s H vs Q E hr h => ?_)
  · obtain ⟨_, _, _, _, _, _, _, _, rfl, _⟩ := h
    rfl
  · obtain ⟨d, fd, n, m, D, x, S, dxx, rfl, ⟨ok, dx, l1, l2, l3, l4, x1, x2, x3, x4, rfl, hnd, h0, h1, h2, h3, h4, v1, v2, v3, v4⟩, hx, hbt, k⟩ := h
    have hu := hu_of hr
    have nd := sc_Disk_after.nd
    obtain ⟨cl, n1, n2, n3, n4⟩ := T
    have x4l : x4.length = D.deeds.length := by rw [v4.length, List.length_map]
    refine ⟨_, (pss_cons (ps_if (pt_not (pt_tru (K := K) (pe_clK C_is_between hr (by decide) (pa_cons (pv 1) pa_nil) (pk_cons pe_int (pk_cons (pe_callB (call_lenA (K := K)) rfl B.len PySem.boot_len (pa_cons (pe_fldA (K := K) (pv 0)) pa_nil)) pk_nil))))) (pss_one (ps_raise rfl (takes_of rfl rfl rfl rfl) (pmk_x X_BadCount hr (by decide) (pa_cons (pv 1) pa_nil)))) pss_nil)
      (pss_cons (ps_set (i := 2) nd rfl (by first | exact Or.inl rfl | exact Or.inr rfl) (pe_cl (E := fun _ => E0) C_beginning_with hr (by decide) pass00 (pa_cons (pe_fldA (K := K) (pv 0)) pa_nil)))
      (pss_cons (ps_for (passes_of rfl) rfl (pi_lst (K := K) (pe_slice (sl_any (K := K)) (pe_fldA (K := K) (pv 0)) po_none (po_some (pv 1)))) (pg_name (i := 3) nd rfl (by first | exact Or.inl rfl | exact Or.inr rfl))
      (pss_one (ps_if (pt_cmpR (op_eqA (K := K) hr.units) (pe_ix (ix_any (K := K)) (pv 3) pe_int (fun _ _ => rfl)) pe_str (nomark _)) (pss_one (ps_expr (C8.pe_mt M_Disk_write hr (by decide) (pv 2) (pa_cons (pe_ix (ix_any (K := K)) (pv 3) pe_int (fun _ _ => rfl)) (pa_cons (pe_ix (ix_any (K := K)) (pv 3) pe_int (fun _ _ => rfl)) pa_nil))))) (pss_one (ps_expr (C8.pe_mt0 M_Disk_flush hr (by decide) (pv 2)))))))
      (pss_one (ps_ret (pv 2)))))), ?_⟩
    repeat walk_at "s"
    rw [x4l]
    refine ⟨_, S, dxx, 0, _, rfl, hx, ?_⟩
    rw [hbt]
    repeat walk_at "s"
    refine r_iteT rfl ?_
    repeat walk_at "s"
    obtain ⟨_, _, _, _, oT, _⟩ := X_BadCount.ex
    exact r_mkX ⟨Nat.le_of_ble_eq_true rfl, _, rfl, oT, XN, fun dd H' h1 h2 h3 => k dd H' h1 h2 h3⟩
def spCrashedF (K : PySem.W.Frag) (CDisk CBX : Addr) : Sp := fun vs H _ E => ∃ (d : Addr) (fd : List Addr) (n m : Nat) (D : DM) (x : V) (S : List Addr) (at_ : V), vs = [.ref d, x] ∧ DiskAt K CDisk H d fd n m D ∧ BadCh K S H x D.writes.length at_ ∧ ∀ H', Same H H' → Raised CBX (atF at_) H' E
theorem ok_Disk_crashedF {f : Addr} {fd : FuncData} (F : Fun K "crashed" "Disk.crashed" s_Disk_crashed f fd) (B : Bl mg) (T : TDisk K CDisk) (C_check_choice : Cl P w K mg base (L2.CX P w) 4 "check_choice" (spChoiceF K CBX)) (C_beginning_with : Cl P w K mg base CX0 5 "beginning_with" (spBegin K CDisk)) :
    FnOk P w K mg base (L2.CX P w) 6 f fd ["self", "kept"] (spCrashedF K CDisk CBX) := by
  refine F.okX sc_Disk_crashed (fun vs H Q E h => ?_) (fun cdv A outer s H vs Q E hr h => ?_)
  · obtain ⟨_, _, _, _, _, _, _, _, rfl, _⟩ := h
    rfl
  · obtain ⟨d, fd, n, m, D, x, S, at_, rfl, ⟨ok, dx, l1, l2, l3, l4, x1, x2, x3, x4, rfl, hnd, h0, h1, h2, h3, h4, v1, v2, v3, v4⟩, hb, k⟩ := h
    have hu := hu_of hr
    have nd := sc_Disk_crashed.nd
    obtain ⟨cl, n1, n2, n3, n4⟩ := T
    have x3l : x3.length = D.writes.length := by rw [v3.length, List.length_map]
    refine ⟨_, (pss_cons (ps_expr (pe_cl (E := WE _) C_check_choice hr (by decide) (fun σ => passAt (takes_of rfl rfl rfl rfl) σ) (pa_cons (pv 1) (pa_cons (pe_callB (call_lenA (K := K)) rfl B.len PySem.boot_len (pa_cons (pe_fldA (K := K) (pv 0)) pa_nil)) pa_nil))))
      (pss_cons (ps_set (i := 2) nd rfl (by first | exact Or.inl rfl | exact Or.inr rfl) (pe_callTy (call_listA (K := K)) rfl B.list (by decide +kernel) (pa_cons (pe_fldA (K := K) (pv 0)) pa_nil)))
      (pss_cons (ps_for (passes_of rfl) rfl (pi_lst (K := K) (pv 1)) (pg_name (i := 3) nd rfl (by first | exact Or.inl rfl | exact Or.inr rfl))
      (pss_cons (ps_asg (pe_ix (ix_any (K := K)) (pe_fldA (K := K) (pv 0)) (pv 3) (fun _ _ => rfl)) (pg_tpl (K := K) rfl (pgs_cons (pg_name (i := 4) nd rfl (by first | exact Or.inl rfl | exact Or.inr rfl)) (pgs_cons (pg_name (i := 5) nd rfl (by first | exact Or.inl rfl | exact Or.inr rfl)) pgs_nil))))
      (pss_one (ps_asg (pv 5) (pg_sub (pv 2) (pv 4) set_list)))))
      (pss_one (ps_ret (pe_cl (E := fun _ => E0) C_beginning_with hr (by decide) pass00 (pa_cons (pv 2) pa_nil))))))), ?_⟩
    repeat walk_at "s"
    rw [x3l]
    exact ⟨x, S, _, at_, rfl, hb, k⟩
/-! ### raised -/
/-- what the law hands to after or crashed -/
def spRaised (K : PySem.W.Frag) (CDisk : Addr) : Sp := fun vs H Q _ => ∃ (d : Addr) (fd : List Addr) (n m : Nat) (D : DM) (x : V) (S : List Addr), DiskAt K CDisk H d fd n m D ∧
  ((∃ dx, vs = [.ref d, .int 0, x] ∧ OdV K S H x dx ∧ betB dx 0 (D.deeds.length : Int) = false ∧ dx.showable = true ∧ dx.depth ≤ 60 ∧ dx.shown.length ≤ sizeLine ∧ ∀ t H', Same H H' → SqT K H' t [.str "count", .str dx.shown, .int 1] → Q (.ref t) H') ∨
   (∃ at_, vs = [.ref d, .int 1, x] ∧ BadCh K S H x D.writes.length at_ ∧ ∀ t H', Same H H' → SqT K H' t [.str "choice", at_, .int 1] → Q (.ref t) H'))
abbrev s_law_raised : Stmt := top 36
abbrev N_law_raised : List Str := ["_law_disk", "_law_way", "_law_thing", "_law_e"]
theorem sc_law_raised : FnScope N_law_raised ["_law_disk", "_law_way", "_law_thing"] (defScope s_law_raised) :=
  ⟨rfl, rfl, rfl, by decide +kernel, rfl, by decide +kernel, by decide +kernel⟩

theorem ok_raised {f : Addr} {fd : FuncData} (F : Fun K "_law_raised" "_law_raised" s_law_raised f fd) (B : Bl mg) {c0 c1 c2 c3 c4 c5 c6 c7 c8 c9 c10 c11 c12 c13 cL : Addr} (EN : ENames mg c0 c1 c2 c3 c4 c5 c6 c7 c8 c9 c10 c11 c12 c13 cL)
    (OC : OneOf K c2 2 c0 c1 c2 c3 c4 c5 c6 c7 c8 c9 c10 c11 c12 c13 cL) (OX : OneOf K c1 1 c0 c1 c2 c3 c4 c5 c6 c7 c8 c9 c10 c11 c12 c13 cL) (nc : PySem.W.findIn K (.ref c2) "count" = some none) (na : PySem.W.findIn K (.ref c1) "at" = some none)
    (eCC : PySem.W.exmOne K (.ref c2) (.ref c2) = some true) (eXC : PySem.W.exmOne K (.ref c1) (.ref c2) = some false) (eXX : PySem.W.exmOne K (.ref c1) (.ref c1) = some true)
    (M_Disk_after : MetX P w K mg base (L2.CX P w) 13 CDisk "after" (spAfterF K CDisk c2)) (M_Disk_crashed : MetX P w K mg base (L2.CX P w) 6 CDisk "crashed" (spCrashedF K CDisk c1)) (C_law_classes_of : ClP P w K mg base CX0 1 "_law_classes_of" (liftX (spClasses K c0 c1 c2 c3 c4 c5 c6 c7 c8 c9 c10 c11 c12 c13 cL))) :
    FnG P w K mg base CX0 14 f fd ["_law_disk", "_law_way", "_law_thing"] (spRaised K CDisk) := by
  refine okG F sc_law_raised (fun vs H Q E h => ?_) (fun cdv A outer s H vs Q E hr hgd h => ?_)
  · obtain ⟨_, _, _, _, _, _, _, _, h⟩ := h
    rcases h with ⟨_, rfl, _⟩ | ⟨_, rfl, _⟩ <;> rfl
  · obtain ⟨d, fd, n, m, D, x, S, hD, hk⟩ := h
    have hu := hu_of hr
    have nd := sc_law_raised.nd
    obtain ⟨gC_BadBlock, gC_BadChoice, gC_BadCount, gC_BadLayout, gC_BadPath, gC_BadRule, gC_BadStep, gC_BadValue, gC_HasEntry, gC_NoEntry, gC_NoRoom, gC_NoSpace, gC_NotEmpty, gC_TooMany, gC_LogError⟩ := EN
    obtain ⟨ok, dx, l1, l2, l3, l4, x1, x2, x3, x4, efd, hnd, h0, _⟩ := id hD
    refine ⟨_, (pss_cons (ps_try_manyAs rfl rfl nd takes0 (fun W pn xe tk po => (pss_one (ps_if (pt_cmpR (op_eqA (K := K) hr.units) (pv 1) pe_int (nomark _)) (pss_one (ps_expr (pe_mx (E := WE W) M_Disk_after hr (by decide) (fun σ => passAt tk σ) (pv 0) (pa_cons (pv 2) pa_nil)))) (pss_one (ps_expr (pe_mx (E := WE W) M_Disk_crashed hr (by decide) (fun σ => passAt tk σ) (pv 0) (pa_cons (pv 2) pa_nil))))))) (.cons (i := 3) rfl rfl ⟨rfl, by decide, .inl gC_BadCount⟩ (fun a oe cls d pn hz hf => (pss_one (ps_ret (pe_tup (pa_cons pe_str (pa_cons (pe_callB (call_reprOd (K := K) hgd hr.units) rfl B.repr (by decide +kernel) (pa_cons (pe_xf2 (K := K) List.mem_cons_self hz hf (pv 3)) pa_nil)) (pa_cons (pe_clX (E := fun _ => E0) C_law_classes_of List.mem_cons_self hz hf (L2H.roomH_mark hr _) (by decide) pass00 (pa_cons (pv 3) pa_nil)) pa_nil))))))) (.cons (i := 3) rfl rfl ⟨rfl, by decide, .inl gC_BadChoice⟩ (fun a oe cls d pn hz hf => (pss_one (ps_ret (pe_tup (pa_cons pe_str (pa_cons (pe_xf2 (K := K) List.mem_cons_self hz hf (pv 3)) (pa_cons (pe_clX (E := fun _ => E0) C_law_classes_of List.mem_cons_self hz hf (L2H.roomH_mark hr _) (by decide) pass00 (pa_cons (pv 3) pa_nil)) pa_nil))))))) .nil)))
      (pss_one (ps_ret pe_non))), ?_⟩
    dsimp only
    rcases hk with ⟨dxx, rfl, hx, hbt, sh, dp, ln, k⟩ | ⟨at_, rfl, hb, k⟩
    · repeat walk_at "s"
      refine r_iteT (by decide +kernel) ?_
      repeat walk_at "s"
      refine r_methAtS h0 (by with_unfolding_all rfl) ?_
      repeat walk_at "s"
      refine ⟨d, fd, n, m, D, x, S, dxx, rfl, hD, hx, hbt, fun dd H1 hdd s1 hdd1 => ?_⟩
      refine ⟨true, eCC, fun _ a ha => ?_, fun z => by cases z⟩
      repeat walk_at "s"
      refine r_xf2 ?_
      repeat walk_at "s"
      refine ⟨rfl, c2, dd, _, x, rfl, OC.xf, nc, rfl, hdd1, by with_unfolding_all rfl, ?_⟩
      repeat walk_at "s"
      refine ⟨x, S, dxx, rfl, hx.same s1, sh, dp, ln, ?_⟩
      repeat walk_at "s"
      refine ⟨c2, dd, 2, _, "count", rfl, rfl, rfl, OC, by decide, hdd1, by with_unfolding_all rfl, fun H2 s2 => ?_⟩
      repeat walk_at "s"
      refine r_newT (sz (Nat.le_of_ble_eq_true rfl)) (fun t H3 ht s3 ht3 => ?_)
      exact k t H3 (fun b o e => s3 b o (s2 b o (s1 b o e))) (.of ht3)
    · repeat walk_at "s"
      refine r_iteF (by decide +kernel) ?_
      repeat walk_at "s"
      refine r_methAtS h0 (by with_unfolding_all rfl) ?_
      repeat walk_at "s"
      refine ⟨d, fd, n, m, D, x, S, at_, rfl, hD, hb, fun H1 s1 dd H2 hdd s2 hdd1 => ?_⟩
      have s02 : Same H H2 := fun b o e => s2 b o (s1 b o e)
      refine ⟨false, eXC, (fun z => by cases z), fun _ => ⟨true, eXX, fun _ a ha => ?_, fun z => by cases z⟩⟩
      repeat walk_at "s"
      refine r_xf2 ?_
      repeat walk_at "s"
      refine ⟨rfl, c1, dd, _, at_, rfl, OX.xf, na, rfl, hdd1, by with_unfolding_all rfl, ?_⟩
      repeat walk_at "s"
      refine ⟨c1, dd, 1, _, "choice", rfl, rfl, rfl, OX, by decide, hdd1, by with_unfolding_all rfl, fun H3 s3 => ?_⟩
      repeat walk_at "s"
      refine r_newT (sz (Nat.le_of_ble_eq_true rfl)) (fun t H4 ht s4 ht4 => ?_)
      exact k t H4 (fun b o e => s4 b o (s3 b o (s02 b o e))) (.of ht4)
end
end L02

open PySem L2 PyProof.Rows J

namespace L02
/-! ### drawn values -/
def wid : Nat → Nat
  | 0 => 140
  | k + 1 => 3 * (wid k + 2) + 3
theorem wid_up (k : Nat) : wid k ≤ wid (k + 1) := by
  show wid k ≤ 3 * (wid k + 2) + 3
  omega
def drw : Nat → Int
  | 0 => 4
  | k + 1 => 3 * drw k + 4
theorem drw_pos : ∀ k, 4 ≤ drw k
  | 0 => Int.le_refl _
  | k + 1 => by
    have := drw_pos k
    show 4 ≤ 3 * drw k + 4
    omega
theorem mul_suc (i : Nat) (x : Int) : ((i + 1 : Nat) : Int) * x = (i : Int) * x + x := by
  rw [Int.natCast_succ, Int.add_mul, Int.one_mul]
theorem mul_le3 {i : Nat} {x : Int} (h : i ≤ 3) (hx : 0 ≤ x) : (i : Int) * x ≤ 3 * x := Int.mul_le_mul_of_nonneg_right (by omega) hx
structure VE (k : Nat) (d : PyData) : Prop where
  ok : Ok (wid k) k d
  val : ∀ dep, dep + k ≤ 8 → valB d dep = true
  sl : slim d = true
theorem VE.up {k : Nat} {d : PyData} (h : VE k d) : VE (k + 1) d := ⟨h.ok.mono (wid_up k) (Nat.le_succ _), fun dep hd => h.val dep (by omega), h.sl⟩
theorem VE.of0 {d : PyData} (h : VE 0 d) : ∀ k, VE k d
  | 0 => h
  | k + 1 => (VE.of0 h k).up
theorem VE.blk {k : Nat} {d : PyData} (h : VE k d) (hk : k ≤ 8) : blockB d = true := by
  unfold blockB
  rw [h.val 0 (by omega), h.sl, h.ok.lay]; rfl
theorem VE.tup {k : Nat} {ds : List PyData} (h : ∀ d ∈ ds, VE k d) (hl : ds.length ≤ 3) : VE (k + 1) (.tuple ds) := by
  refine ⟨okTup ⟨fun d hd => (h d hd).ok⟩ hl, fun dep hd => ?_, ?_⟩
  · show (decide (dep < 8) && valsB ds (dep + 1)) = true
    rw [valsB_all, decide_eq_true (by omega), List.all_eq_true.mpr fun x hx => (h x hx).val (dep + 1) (by omega)]; rfl
  · show (decide (ds.length ≤ 1000000) && slims ds) = true
    have : ∀ xs : List PyData, (∀ d ∈ xs, slim d = true) → slims xs = true := by
      intro xs
      induction xs with
      | nil => intro _; rfl
      | cons x xs ih =>
        intro hx
        show (slim x && slims xs) = true
        rw [hx x List.mem_cons_self, ih fun d hd => hx d (List.mem_cons_of_mem _ hd)]; rfl
    rw [decide_eq_true (by omega), this ds fun d hd => (h d hd).sl]; rfl
theorem VE.int {i : Int} (h : i.natAbs < 2 ^ 68) : VE 0 (.int i) := ⟨(okInt h (by decide)).mono (by decide) (Nat.le_refl _), fun _ _ => rfl, rfl⟩
theorem VE.str {x : Str} (h : PyData.strOk x = true) (hl : (reprText x).length ≤ 140) : VE 0 (.str x) := ⟨okStr h hl, fun _ _ => rfl, rfl⟩
section
variable {P : Program} {w : World} {K : PySem.W.Frag} {mg : Str → Option Value} {base : Heap}
def spValue (K : PySem.W.Frag) (m : Nat) : Sp := fun vs H Q _ => ∃ (p : Addr) (n : Int), vs = [.ref p, .int m] ∧ SrcAt H p n ∧ n + drw m ≤ 2 ^ 38 ∧
  ∀ v d H', VE m d → But [p] H H' → SrcAt H' p (n + drw m) → Dn K [] H' v d → Q v H'
def spVals (K : PySem.W.Frag) : Nat → Sp
  | 0 => fun _ _ _ _ => False
  | m + 1 => spValue K m
abbrev s_law_value : Stmt := top 30
abbrev N_law_value : List Str := ["_law_well_here", "_law_depth", "_law_way", "_law_k"]
theorem sc_law_value : FnScope N_law_value ["_law_well_here", "_law_depth"] (defScope s_law_value) :=
  ⟨rfl, rfl, rfl, by decide +kernel, rfl, by decide +kernel, by decide +kernel⟩

theorem ok_value {f : Addr} {fd : FuncData} (F : Fun K "_law_value" "_law_value" s_law_value f fd) (B : Bl mg) 
    (C_law_draw : Cl P w K mg base CX0 1 "_law_draw" spDraw) (C_law_one : Cl P w K mg base CX0 2 "_law_one" (spOne K)) {m : Nat} (C_law_value : Cl P w K mg base CX0 (m + 2) "_law_value" (spVals K m)) (hm8 : m ≤ 7) :
    FnOk P w K mg base CX0 (m + 3) f fd ["_law_well_here", "_law_depth"] (spVals K (m + 1)) := by
  refine F.ok sc_law_value (fun vs H Q E h => ?_) (fun cdv A outer s H vs Q E hr h => ?_)
  · obtain ⟨_, _, rfl, _⟩ := h
    rfl
  · obtain ⟨p, n, rfl, hp, hn, k⟩ := h
    have hr : Room (m + 2) _ := hr
    have hu := hu_of hr
    have nd := sc_law_value.nd
    have lv := hp.live
    have dp := drw_pos m
    refine ⟨_, (pss_cons (ps_set (i := 2) nd rfl (by first | exact Or.inl rfl | exact Or.inr rfl) (pe_cl (E := fun _ => E0) C_law_draw hr (by omega) pass00 (pa_cons (pv 0) (pa_cons pe_int pa_nil))))
      (pss_cons (ps_if (pt_cmpR op_ltA (pv 2) pe_int (nomark _)) (pss_one (ps_ret (pe_op op_sub (pe_cl (E := fun _ => E0) C_law_draw hr (by omega) pass00 (pa_cons (pv 0) (pa_cons pe_int pa_nil))) pe_int))) pss_nil)
      (pss_cons (ps_if (pt_cmpR (op_eqA (K := K) hr.units) (pv 2) pe_int (nomark _)) (pss_one (ps_ret (pe_op op_sub (pe_op op_pow pe_int pe_int) (pe_cl (E := fun _ => E0) C_law_draw hr (by omega) pass00 (pa_cons (pv 0) (pa_cons (pe_op op_pow pe_int pe_int) pa_nil)))))) pss_nil)
      (pss_cons (ps_if (PW.pt (pw_or (pt_cmpR (op_eqA (K := K) hr.units) (pv 2) pe_int (nomark _)) (pw_or1 (pt_cmpR (op_eqA (K := K) hr.units) (pv 1) pe_int (nomark _))))) (pss_one (ps_ret (pe_cl (E := fun _ => E0) C_law_one hr (by omega) pass00 (pa_cons (pv 0) (pa_cons (pe_lst (pa_cons pe_str (pa_cons pe_str (pa_cons pe_str (pa_cons pe_str (pa_cons pe_str pa_nil)))))) pa_nil))))) pss_nil)
      (pss_one (ps_ret (pe_callTy (call_tupleA (K := K)) rfl B.tuple (by decide +kernel) (pa_cons (pe_lc (own := [("_law_k", 3)]) (g := (gName 3)) (tt := tYes) rfl nd (pi_range1 rfl B.range (pa_cons (pe_cl (E := fun _ => E0) C_law_draw hr (by omega) pass00 (pa_cons (pv 0) (pa_cons pe_int pa_nil))) pa_nil)) (blkOk_by (own := [("_law_k", 3)]) (N := N_law_value) (sc := defScope s_law_value) (by decide +kernel)) (fun _ _ _ _ _ => (pg_name (i := 3) nd rfl (by first | exact Or.inl rfl | exact Or.inr rfl))) (fun _ _ _ _ _ => pts_nil) (fun _ _ _ _ _ => pe_cl (E := fun _ => E0) C_law_value hr (by omega) pass00 (pa_cons (pv 0) (pa_cons (pe_op op_sub (pv 1) pe_int) pa_nil)))) pa_nil)))))))), ?_⟩
    repeat walk_at "s"
    refine ⟨p, n, 6, rfl, hp, by omega, by decide, by decide, fun a H1 ha0 ha1 b1 hp1 => ?_⟩
    repeat walk_at "s"
    refine r_ite (fun _ => ?_) (fun _ => ?_)
    · repeat walk_at "s"
      refine ⟨p, _, _, rfl, hp1, by omega, by decide, by decide, fun b H2 hb0 hb1 b2 hp2 => ?_⟩
      repeat walk_at "s"
      exact k _ _ H2 ((VE.int (by omega)).of0 _) (b1.trans b2) (hp2.mono (by omega)) (.int _)
    repeat walk_at "s"
    refine r_ite (fun _ => ?_) (fun _ => ?_)
    · repeat walk_at "s"
      refine ⟨p, _, _, rfl, hp1, by omega, by decide, by decide, fun b H2 hb0 hb1 b2 hp2 => ?_⟩
      repeat walk_at "s"
      have hb2 : b < 1000000000 := hb1
      have h20 : (10 : Int) ^ Int.toNat 20 = 100000000000000000000 := by decide
      rw [h20]
      exact k _ _ H2 ((VE.int (by omega)).of0 _) (b1.trans b2) (hp2.mono (by omega)) (.int _)
    repeat walk_at "s"
    refine r_iteSh ?_ (fun hn3 T => ?_)
    · refine r_iteT rfl ?_
      repeat walk_at "s"
      refine r_newL (sz (Nat.le_of_ble_eq_true rfl)) (fun l H3 hl s3 hl3 => ?_)
      repeat walk_at "s"
      have nlp : l ≠ p := fun z => hp1.live (z ▸ hl)
      refine ⟨p, l, _, _, rfl, hp1.same s3, by omega, nlp, SqL.of hl3, by simp, by simp, fun i v H4 hi b4 hp4 => ?_⟩
      have hv := List.mem_of_getElem? hi
      simp only [List.mem_cons, List.not_mem_nil, or_false] at hv
      have fin : ∀ x : Str, PyData.strOk x = true ∧ (reprText x).length ≤ 140 → Q (.str x) H4 := fun x h => k _ _ H4 ((VE.str h.1 h.2).of0 _) ((b1.trans (But.of_same s3)).trans b4) (hp4.mono (by omega)) (.str _)
      rcases hv with rfl | rfl | rfl | rfl | rfl
      · exact fin _ (by decide +kernel)
      · exact fin _ (by decide +kernel)
      · exact fin _ (by decide +kernel)
      · exact fin _ (by decide +kernel)
      · exact fin _ (by decide +kernel)
    · repeat walk_at "s"
      refine r_ite (fun _ => T) (fun hm0 => ?_)
      obtain ⟨m, rfl⟩ : ∃ m', m = m' + 1 := ⟨m - 1, by omega⟩
      clear T
      have ed : drw (m + 1) = 3 * drw m + 4 := rfl
      have dpm := drw_pos m
      repeat walk_at "s"
      refine r_lcR ?_
      repeat walk_at "s"
      refine ⟨p, _, _, rfl, hp1, by omega, by decide, by decide, fun c H2 hc0 hc1 b2 hp2 => ?_⟩
      obtain ⟨cn, rfl⟩ : ∃ cn : Nat, c = (cn : Int) := ⟨c.toNat, by omega⟩
      have hc3 : cn ≤ 3 := by have : (cn : Int) < 4 := hc1; omega
      refine lcR ⟨by omega, by omega⟩ (fun l H3 hl s3 hl3 => ?_)
      have nlp : l ≠ p := fun z => hp2.live (z ▸ hl)
      refine ⟨fun i H' => ∃ ws ds, But [p, l] H3 H' ∧ H' l = some (.lst ws) ∧ DnAll K [p, l] H' ws ds ∧ ds.length = i ∧ (∀ d ∈ ds, VE m d) ∧ SrcAt H' p (n + 2 + (i : Int) * drw m),
        ⟨[], [], .refl, hl3, .nil, rfl, by simp, (hp2.same s3).mono (by simp; omega)⟩, ?_, ?_⟩
      · rintro i H4 hi ⟨ws, ds, b4, hl4, hws, hds, hve, hp4⟩
        have hmul := mul_le3 (i := i + 1) (x := drw m) (by omega) (by omega)
        rw [mul_suc] at hmul
        have em : ((m + 1 : Nat) : Int) - 1 = (m : Int) := by omega
        repeat walk_at "s"
        refine ⟨rfl, ?_⟩
        refine r_yes ?_
        refine r_iteT rfl ?_
        repeat walk_at "s"
        refine ⟨p, _, by rw [em], hp4, by omega, fun v d H5 hv b5 hp5 hdv => ?_⟩
        have hl5 := b5.at hl4 (by simpa using nlp)
        refine ⟨_, hl5, szl (by have := hws.length; omega), ?_⟩
        obtain ⟨H6, e6, b6, hl6⟩ := upd_ex (o' := .lst (ws ++ [v])) hl5
        rw [e6]
        have nol := valB_nol d 0 (hv.val 0 (by omega))
        refine ⟨_, ds ++ [d], (b4.trans (b5.sub (by simp))).trans (b6.sub (by simp)), hl6, ?_, by simp [hds], ?_, ?_⟩
        · exact ((hws.but b5 (by simp)).but b6 (by simp)).snoc ((hdv.any nol).but b6 (by simp))
        · intro x hx
          rcases List.mem_append.mp hx with h | h
          · exact hve x h
          · exact (List.mem_singleton.mp h) ▸ hv
        · refine (hp5.but b6 (by simpa using Ne.symm nlp)).mono ?_
          rw [mul_suc]; omega
      · rintro H4 ⟨ws, ds, b4, hl4, hws, hds, hve, hp4⟩
        have hd3 : ds.length ≤ 3 := by rw [hds]; omega
        have hmul := mul_le3 (i := cn) (x := drw m) (by omega) (by omega)
        refine r_tupleL (SqL.of hl4) (fun t H5 ht s5 ht5 => ?_)
        refine k _ (.tuple ds) H5 (VE.tup hve hd3) ?_ ((hp4.same s5).mono ?_) ?_
        · have b24 : But [l, p] H2 H4 := (But.of_same s3).trans (b4.sub (by simp))
          exact ((b1.trans b2).trans (b24.drop hl)).trans (But.of_same s5)
        · have : ((cn : Int)).toNat = cn := Int.toNat_natCast cn
          rw [this]; omega
        · exact .tup (.of ht5) ((hws.same s5).sub (by simp))
end
end L02

open PySem L2 PyProof.Rows J


namespace L02
structure VOk (D : DM) : Prop where
  s : ∀ v ∈ D.safe, Ok 3897 3 v
  w : ∀ u ∈ D.writes, Ok 3897 3 u.2
  e : ∀ u, some u ∈ D.deeds → Ok 3897 3 u.2
theorem okW {n k : Nat} {D : DM} (ok : DOk n k D) (v : VOk D) (hk : k ≤ 100) : Ok 499074 5 (.list (D.writes.map dWr)) := by
  refine (okList (n := 4000) (k := 4) (m := 100) ⟨fun d hd => ?_⟩ (by rw [List.length_map]; have := ok.wl; have := ok.dl; omega)).mono (by decide) (by decide)
  obtain ⟨u, hu, rfl⟩ := List.mem_map.mp hd
  have h := ok.wv u hu
  have h2 := ok.n2
  exact (okTup2 (okInt (m := 68) (i := u.1) (by omega) (by decide) |>.mono (Nat.le_refl _) (by decide)) (v.w u hu)).mono (by decide) (by decide)
theorem okS {n k : Nat} {D : DM} (ok : DOk n k D) (v : VOk D) : Ok 499074 5 (.list D.safe) :=
  (okList (n := 3897) (k := 3) (m := 128) ⟨v.s⟩ (by rw [ok.sl]; exact ok.n2)).mono (by decide) (by decide)
theorem okE {n k : Nat} {D : DM} (ok : DOk n k D) (v : VOk D) (hk : k ≤ 100) : Ok 499074 5 (.list (D.deeds.map dEv)) := by
  refine (okList (n := 4000) (k := 4) (m := 100) ⟨fun d hd => ?_⟩ (by rw [List.length_map]; have := ok.dl; omega)).mono (by decide) (by decide)
  obtain ⟨u, hu, rfl⟩ := List.mem_map.mp hd
  cases u with
  | none => exact ⟨by decide +kernel, by decide +kernel, by decide +kernel, by decide +kernel⟩
  | some u =>
    have h := ok.dv u hu
    have h2 := ok.n2
    exact (okTup3 ((okStr (n := 20) (x := "write") (by decide +kernel) (by decide +kernel)).mono (Nat.le_refl _) (by decide)) (okInt (m := 68) (i := u.1) (by omega) (by decide) |>.mono (Nat.le_refl _) (by decide)) (v.e u hu)).mono (by decide) (by decide)
def seenD (D : DM) : PyData := .list [.list D.safe, .list (D.writes.map dWr), .list (D.deeds.map dEv)]
theorem okSeen {n k : Nat} {D : DM} (ok : DOk n k D) (v : VOk D) (hk : k ≤ 100) : Ok 2000000 6 (seenD D) :=
  (okList (n := 499074) (k := 5) (m := 4) (.cons (okS ok v) (.cons (okW ok v hk) (.cons (okE ok v hk) .nil))) (show 3 ≤ 4 by decide)).mono (by decide) (by decide)
section
variable {P : Program} {w : World} {K : PySem.W.Frag} {mg : Str → Option Value} {base : Heap} {CDisk CBC : Addr}
/-! ### seen -/
def spSeen (K : PySem.W.Frag) (CDisk : Addr) : Sp := fun vs H Q _ => ∃ (d : Addr) (fd : List Addr) (n k : Nat) (D : DM), vs = [.ref d] ∧ DiskAt K CDisk H d fd n k D ∧ VOk D ∧ k ≤ 100 ∧
  ∀ H', Same H H' → Q (.str (seenD D).shown) H'
abbrev s_law_seen : Stmt := top 33
abbrev N_law_seen : List Str := ["_law_disk"]
theorem sc_law_seen : FnScope N_law_seen ["_law_disk"] (defScope s_law_seen) :=
  ⟨rfl, rfl, rfl, by decide +kernel, rfl, by decide +kernel, by decide +kernel⟩

theorem ok_seen {f : Addr} {fd : FuncData} (F : Fun K "_law_seen" "_law_seen" s_law_seen f fd) (B : Bl mg)
    (M_Disk_pending : C8.Met P w K mg base 1 CDisk "pending" (spCopyOf K CDisk fun D => D.writes.map dWr) []) (M_Disk_durable : C8.Met P w K mg base 1 CDisk "durable" (spCopyOf K CDisk DM.safe) []) (M_Disk_events : C8.Met P w K mg base 1 CDisk "events" (spCopyOf K CDisk fun D => D.deeds.map dEv) []) :
    FnG P w K mg base CX0 2 f fd ["_law_disk"] (spSeen K CDisk) := by
  refine okG F sc_law_seen (fun vs H Q E h => ?_) (fun cdv A outer s H vs Q E hr hgd h => ?_)
  · obtain ⟨_, _, _, _, _, rfl, _⟩ := h
    rfl
  · obtain ⟨d, fd, n, kk, D, rfl, hD, vo, hk, k⟩ := h
    have hu := hu_of hr
    have nd := sc_law_seen.nd
    have ok := hD.ok
    obtain ⟨_, dx, l1, l2, l3, l4, x1, x2, x3, x4, efd, hnd, h0, _⟩ := id hD
    have hok := okSeen ok vo hk
    refine ⟨_, (pss_one (ps_ret (pe_callB (call_reprA (K := K) hgd hr.units) rfl B.repr (by decide +kernel) (pa_cons (pe_lst (pa_cons (C8.pe_mt0 M_Disk_durable hr (by decide) (pv 0)) (pa_cons (C8.pe_mt0 M_Disk_pending hr (by decide) (pv 0)) (pa_cons (C8.pe_mt0 M_Disk_events hr (by decide) (pv 0)) pa_nil)))) pa_nil)))), ?_⟩
    repeat walk_at "s"
    refine r_methAt h0 (by with_unfolding_all rfl) ?_
    refine ⟨d, fd, n, kk, D, rfl, hD, fun la xa H1 hla s1 hla1 va => ?_⟩
    have hD1 := hD.same s1
    have h01 := s1 _ _ h0
    repeat walk_at "s"
    refine r_methAt h01 (by with_unfolding_all rfl) ?_
    refine ⟨d, fd, n, kk, D, rfl, hD1, fun lb xb H2 hlb s2 hlb2 vb => ?_⟩
    have hD2 := hD1.same s2
    have h02 := s2 _ _ h01
    repeat walk_at "s"
    refine r_methAt h02 (by with_unfolding_all rfl) ?_
    refine ⟨d, fd, n, kk, D, rfl, hD2, fun lc xc H3 hlc s3 hlc3 vc => ?_⟩
    repeat walk_at "s"
    refine r_newL (sz (Nat.le_of_ble_eq_true rfl)) (fun lf H4 hlf s4 hlf4 => ?_)
    have s04 : Same H H4 := fun b o e => s4 b o (s3 b o (s2 b o (s1 b o e)))
    have s24 : Same H2 H4 := fun b o e => s4 b o (s3 b o e)
    have s14 : Same H1 H4 := fun b o e => s24 b o (s2 b o e)
    have df : Dn K [] H4 (.ref lf) (seenD D) := .lst hlf4 (by simp) (.cons (.lst (s14 _ _ hla1) (by simp) (va.same s14)) (.cons (.lst (s24 _ _ hlb2) (by simp) (vb.same s24)) (.one (.lst (s4 _ _ hlc3) (by simp) (vc.same s4)))))
    repeat walk_at "s"
    refine r_reprOk df hok (by decide) (by decide) ?_
    exact k H4 s04
/-! ### kept -/
def spKeptL (K : PySem.W.Frag) : Sp := fun vs H Q _ => ∃ (p : Addr) (n : Int) (c : Nat), vs = [.ref p, .int c] ∧ SrcAt H p n ∧ n ≤ 2 ^ 30 ∧ c ≤ 1000 ∧
  ∀ l ns H', H l = none → But [p] H H' → SrcAt H' p (n + c) → H' l = some (.lst (ns.map fun i : Nat => V.int i)) → Choice c ns → Q (.ref l) H'
abbrev s_law_kept : Stmt := top 34
abbrev N_law_kept : List Str := ["_law_well_here", "_law_count", "_law_at"]
theorem sc_law_kept : FnScope N_law_kept ["_law_well_here", "_law_count"] (defScope s_law_kept) :=
  ⟨rfl, rfl, rfl, by decide +kernel, rfl, by decide +kernel, by decide +kernel⟩

theorem ok_kept {f : Addr} {fd : FuncData} (F : Fun K "_law_kept" "_law_kept" s_law_kept f fd) (B : Bl mg) (C_law_draw : Cl P w K mg base CX0 1 "_law_draw" spDraw) :
    FnOk P w K mg base CX0 2 f fd ["_law_well_here", "_law_count"] (spKeptL K) := by
  refine F.ok sc_law_kept (fun vs H Q E h => ?_) (fun cdv A outer s H vs Q E hr h => ?_)
  · obtain ⟨_, _, _, rfl, _⟩ := h
    rfl
  · obtain ⟨p, n, c, rfl, hp, hn, hc, k⟩ := h
    have hu := hu_of hr
    have nd := sc_law_kept.nd
    refine ⟨_, (pss_one (ps_ret (pe_lc (own := [("_law_at", 2)]) (g := (gName 2)) rfl nd (pi_range1 rfl B.range (pa_cons (pv 1) pa_nil)) (blkOk_by (own := [("_law_at", 2)]) (N := N_law_kept) (sc := defScope s_law_kept) (by decide +kernel)) (fun _ _ _ _ _ => (pg_name (i := 2) nd rfl (by first | exact Or.inl rfl | exact Or.inr rfl))) (fun _ _ _ _ _ => pts_one (pt_cmpR op_gt (pe_cl (E := fun _ => E0) C_law_draw hr (by decide) pass00 (pa_cons (pv 0) (pa_cons pe_int pa_nil))) pe_int (nomark _))) (fun _ _ _ _ _ => pv 2)))), ?_⟩
    repeat walk_at "s"
    refine r_lcR ?_
    repeat walk_at "s"
    refine lcR ⟨by omega, by omega⟩ (fun l H1 hl s1 hl1 => ?_)
    have nlp : l ≠ p := fun z => hp.live (z ▸ hl)
    refine ⟨fun i H' => ∃ ns, But [p, l] H1 H' ∧ H' l = some (.lst (ns.map fun i : Nat => V.int i)) ∧ Choice i ns ∧ SrcAt H' p (n + i), ⟨[], .refl, hl1, ⟨.nil, by simp⟩, by simpa using hp.same s1⟩, ?_, ?_⟩
    · rintro i H2 hi ⟨ns, b2, hl2, hch, hp2⟩
      repeat walk_at "s"
      refine ⟨rfl, ?_⟩
      repeat walk_at "s"
      refine ⟨p, _, 3, rfl, hp2, by omega, by decide, by decide, fun u H3 hu0 hu1 b3 hp3 => ?_⟩
      have hl3 := b3.at hl2 (by simpa using nlp)
      have hp3' : SrcAt H3 p (n + ((i + 1 : Nat) : Int)) := hp3.mono (by omega)
      repeat walk_at "s"
      refine r_ite (fun hb => ?_) (fun hb => ?_)
      · repeat walk_at "s"
        refine ⟨_, hl3, szl (by rw [List.length_map]; have := hch.len; omega), ?_⟩
        obtain ⟨H4, e4, b4, hl4⟩ := upd_ex (o' := .lst ((ns.map fun i : Nat => V.int i) ++ [.int i])) hl3
        rw [e4]
        refine ⟨ns ++ [i], (b2.trans (b3.sub (by simp))).trans (b4.sub (by simp)), by rw [hl4, List.map_append]; rfl, ⟨?_, ?_⟩, hp3'.but b4 (by simpa using Ne.symm nlp)⟩
        · exact List.pairwise_append.mpr ⟨hch.up, List.pairwise_singleton _ _, fun x hx y hy => by rw [List.mem_singleton.mp hy]; exact hch.hi x hx⟩
        · intro x hx
          rcases List.mem_append.mp hx with h | h
          · exact Nat.lt_succ_of_lt (hch.hi x h)
          · rw [List.mem_singleton.mp h]; exact Nat.lt_succ_self _
      · exact ⟨ns, b2.trans (b3.sub (by simp)), hl3, ⟨hch.up, fun x hx => Nat.lt_succ_of_lt (hch.hi x hx)⟩, hp3'⟩
    · rintro H2 ⟨ns, b2, hl2, hch, hp2⟩
      have ec : ((c : Nat) : Int).toNat = c := Int.toNat_natCast c
      rw [ec] at hch hp2
      have b02 : But [l, p] H H2 := (But.of_same s1).trans (b2.sub (by simp))
      exact k l ns H2 hl (b02.drop hl) hp2 hl2 hch
end
end L02

open PySem L2 PyProof.Rows J


namespace L02
theorem bet_int {d : PyData} {lo hi : Int} (h : betB d lo hi = true) : ∃ i, d = .int i ∧ lo ≤ i ∧ i ≤ hi := by
  cases d with
  | int i => exact ⟨i, rfl, bet_iff.mp h⟩
  | _ => simp [betB] at h
theorem bet_no {d : PyData} {lo hi : Int} (h : ∀ i, d = .int i → ¬ (lo ≤ i ∧ i ≤ hi)) : betB d lo hi = false := by
  cases hb : betB d lo hi with
  | false => rfl
  | true =>
    obtain ⟨i, e, h1, h2⟩ := bet_int hb
    exact absurd ⟨h1, h2⟩ (h i e)
theorem r_revL {K : PySem.W.Frag} {σ : L2.St} {H : Hp} {Q : VK} {te : TE} (k : te σ H fun x H1 => ∃ a xs, x = .ref a ∧ SqL K H1 a xs ∧ ∀ p, H1 p = none → Q (.ref p) (upd H1 p (.lst xs.reverse))) : tRevL K te σ H Q := k
section
variable {P : Program} {w : World} {K : PySem.W.Frag} {mg : Str → Option Value} {base : Heap} {CDisk CBC : Addr}
/-! ### a bad choice -/
def spBadKept (K : PySem.W.Frag) : Sp := fun vs H Q _ => ∃ (p a : Addr) (n : Int) (c : Nat) (ns : List Nat), vs = [.ref p, .ref a, .int c] ∧ SrcAt H p n ∧ n ≤ 2 ^ 30 ∧ H a = some (.lst (ns.map fun i : Nat => V.int i)) ∧ a ≠ p ∧ Choice c ns ∧ c ≤ 100 ∧
  ∀ r x at_ H', But [p] H H' → SrcAt H' p (n + 4) → SqT K H' r [x, at_] → BadCh K [p] H' x c at_ → (at_ = .non ∨ ∃ j : Nat, at_ = .int j ∧ j ≤ 1000) → Q (.ref r) H'
abbrev s_law_bad_kept : Stmt := top 35
abbrev N_law_bad_kept : List Str := ["_law_well_here", "_law_kept_here", "_law_count", "_law_at", "_law_odd", "_law_way", "_law_last"]
theorem sc_law_bad_kept : FnScope N_law_bad_kept ["_law_well_here", "_law_kept_here", "_law_count"] (defScope s_law_bad_kept) :=
  ⟨rfl, rfl, rfl, by decide +kernel, rfl, by decide +kernel, by decide +kernel⟩

theorem ok_bad_kept {f : Addr} {fd : FuncData} (F : Fun K "_law_bad_kept" "_law_bad_kept" s_law_bad_kept f fd) (B : Bl mg) (C_law_draw : Cl P w K mg base CX0 1 "_law_draw" spDraw) (C_law_one : Cl P w K mg base CX0 2 "_law_one" (spOne K)) :
    FnOk P w K mg base CX0 3 f fd ["_law_well_here", "_law_kept_here", "_law_count"] (spBadKept K) := by
  refine F.ok sc_law_bad_kept (fun vs H Q E h => ?_) (fun cdv A outer s H vs Q E hr h => ?_)
  · obtain ⟨_, _, _, _, _, rfl, _⟩ := h
    rfl
  · obtain ⟨p, a, n, c, ns, rfl, hp, hn, ha, hap, hc, hcl, k⟩ := h
    have hu := hu_of hr
    have nd := sc_law_bad_kept.nd
    have nl := hc.len
    have lv := hp.live
    refine ⟨_, (pss_cons (ps_set (i := 3) nd rfl (by first | exact Or.inl rfl | exact Or.inr rfl) (pe_cl (E := fun _ => E0) C_law_draw hr (by decide) pass00 (pa_cons (pv 0) (pa_cons (pe_op (op_addA (K := K)) (pe_callB (call_lenA (K := K)) rfl B.len PySem.boot_len (pa_cons (pv 1) pa_nil)) pe_int) pa_nil))))
      (pss_cons (ps_set (i := 4) nd rfl (by first | exact Or.inl rfl | exact Or.inr rfl) (pe_cl (E := fun _ => E0) C_law_one hr (by decide) pass00 (pa_cons (pv 0) (pa_cons (pe_lst (pa_cons (pv 2) (pa_cons (pe_un un_neg pe_int) (pa_cons pe_bl (pa_cons pe_non (pa_cons pe_str (pa_cons (pe_tup (pa_cons pe_int pa_nil)) (pa_cons (pe_lst (pa_cons pe_int pa_nil)) (pa_cons (pe_op op_pow pe_int pe_int) pa_nil))))))))) pa_nil))))
      (pss_cons (ps_set (i := 5) nd rfl (by first | exact Or.inl rfl | exact Or.inr rfl) (pe_cl (E := fun _ => E0) C_law_draw hr (by decide) pass00 (pa_cons (pv 0) (pa_cons pe_int pa_nil))))
      (pss_cons (ps_if (pt_cmpR (op_eqA (K := K) hr.units) (pv 5) pe_int (nomark _)) (pss_one (ps_ret (pe_tup (pa_cons (pe_cl (E := fun _ => E0) C_law_one hr (by decide) pass00 (pa_cons (pv 0) (pa_cons (pe_lst (pa_cons pe_non (pa_cons (pe_callTy (call_tupleA (K := K)) rfl B.tuple (by decide +kernel) (pa_cons (pv 1) pa_nil)) (pa_cons pe_str (pa_cons pe_dnewK (pa_cons pe_int pa_nil)))))) pa_nil))) (pa_cons pe_non pa_nil))))) pss_nil)
      (pss_cons (ps_if (PW.pt (pw_and (pt_cmpR (op_eqA (K := K) hr.units) (pv 5) pe_int (nomark _)) (pw_and1 (pt_cmpR (op_neLE hr.units) (pv 1) (pe_lst pa_nil) (nomark _))))) (pss_cons (ps_set (i := 6) nd rfl (by first | exact Or.inl rfl | exact Or.inr rfl) (pe_ix (ix_any (K := K)) (pv 1) (pe_un un_neg pe_int) (fun _ _ => rfl)))
      (pss_one (ps_ret (pe_tup (pa_cons (pe_op (op_addA (K := K)) (pv 1) (pe_lst (pa_cons (pv 6) pa_nil))) (pa_cons (pe_callB (call_lenA (K := K)) rfl B.len PySem.boot_len (pa_cons (pv 1) pa_nil)) pa_nil)))))) pss_nil)
      (pss_cons (ps_if (PW.pt (pw_and (pt_cmpR (op_eqA (K := K) hr.units) (pv 5) pe_int (nomark _)) (pw_and1 (pt_cmpR op_gt (pe_callB (call_lenA (K := K)) rfl B.len PySem.boot_len (pa_cons (pv 1) pa_nil)) pe_int (nomark _))))) (pss_one (ps_ret (pe_tup (pa_cons (pe_revL (pv 1)) (pa_cons pe_int pa_nil))))) pss_nil)
      (pss_one (ps_ret (pe_tup (pa_cons (pe_op (op_addA (K := K)) (pe_op (op_addA (K := K)) (pe_slice (sl_any (K := K)) (pv 1) po_none (po_some (pv 3))) (pe_lst (pa_cons (pv 4) pa_nil))) (pe_slice (sl_any (K := K)) (pv 1) (po_some (pv 3)) po_none)) (pa_cons (pv 3) pa_nil))))))))))), ?_⟩
    repeat walk_at "s"
    refine ⟨p, n, _, rfl, hp, by omega, by rw [List.length_map]; omega, by rw [List.length_map]; omega, fun at_ H1 hat0 hat1 b1 hp1 => ?_⟩
    rw [List.length_map] at hat1
    obtain ⟨k1, rfl⟩ := Int.eq_ofNat_of_zero_le hat0
    have hk1 : k1 ≤ ns.length := by omega
    repeat walk_at "s"
    refine r_U ?_
    repeat walk_at "s"
    refine r_newT (sz (Nat.le_of_ble_eq_true rfl)) (fun t1 H2 ht1 s2 ht12 => ?_)
    repeat walk_at "s"
    refine r_newL (sz (Nat.le_of_ble_eq_true rfl)) (fun l1 H3 hl1 s3 hl13 => ?_)
    repeat walk_at "s"
    refine r_newL (sz (Nat.le_of_ble_eq_true rfl)) (fun lo H4 hlo s4 hlo4 => ?_)
    repeat walk_at "s"
    have nl1 : l1 ≠ p := fun z => hp1.live (z ▸ (But.of_same (S := []) s2).free hl1)
    have nlo : lo ≠ p := fun z => hp1.live (z ▸ (But.of_same (S := []) fun b o e => s3 b o (s2 b o e)).free hlo)
    have d1 : Dn K [p] H4 (.ref t1) (.tuple [.int 0]) := .tup (.of (s4 _ _ (s3 _ _ ht12))) (.one (.int 0))
    have d2 : Dn K [p] H4 (.ref l1) (.list [.int 0]) := .lst (s4 _ _ hl13) (by simpa using nl1) (.one (.int 0))
    have s14 : Same H1 H4 := fun b o e => s4 b o (s3 b o (s2 b o e))
    refine ⟨p, lo, _, _, rfl, hp1.same s14, by omega, nlo, SqL.of hlo4, by simp, by simp, fun i v H5 hi b5 hp5 => ?_⟩
    obtain ⟨bd, hv, hbad⟩ : ∃ bd, Dn K [p] H5 v bd ∧ ∀ l : Int, 0 ≤ l → betB bd l ((c : Int) - 1) = false := by
      have hm := List.mem_of_getElem? hi
      simp only [List.mem_cons, List.not_mem_nil, or_false] at hm
      have ni : ∀ {j : Int}, j < 0 ∨ (c : Int) ≤ j → ∀ l : Int, 0 ≤ l → betB (.int j) l ((c : Int) - 1) = false := fun h l hl => bet_no fun i e => by
        cases e
        omega
      rcases hm with rfl | rfl | rfl | rfl | rfl | rfl | rfl | rfl
      · exact ⟨_, .int _, ni (.inr (Int.le_refl _))⟩
      · exact ⟨_, .int _, ni (.inl (by decide))⟩
      · exact ⟨_, .bl true, fun _ _ => rfl⟩
      · exact ⟨_, .non, fun _ _ => rfl⟩
      · exact ⟨_, .str "0", fun _ _ => rfl⟩
      · exact ⟨_, d1.but b5 (by simp), fun _ _ => rfl⟩
      · exact ⟨_, d2.but b5 (by simp), fun _ _ => rfl⟩
      · exact ⟨_, .int _, ni (.inr (by have : (10 : Int) ^ Int.toNat 20 = 100000000000000000000 := by decide
                                       rw [this]; omega))⟩
    have b05 : But [p] H H5 := (b1.trans (But.of_same s14)).trans b5
    clear b1 s2 s3 s4 s14 b5 hp1 hlo4 hlo hl13 ht12 d1 d2 ht1 hl1
    repeat walk_at "s"
    refine ⟨p, _, 4, rfl, hp5, by omega, by decide, by decide, fun u H6 hu0 hu1 b6 hp6 => ?_⟩
    have b06 := b05.trans b6
    have ha6 := b06.at ha (by simpa using hap)
    have hv6 := hv.but b6 (by simp)
    repeat walk_at "s"
    refine r_ite (fun _ => ?_) (fun _ => ?_)
    · repeat walk_at "s"
      refine r_tupleL (.of ha6) (fun t7 H7 ht7 s7 ht77 => ?_)
      repeat walk_at "s"
      refine r_dnew (fun a8 H8 ha8 s8 ha88 => ?_)
      repeat walk_at "s"
      refine r_newL (sz (Nat.le_of_ble_eq_true rfl)) (fun l9 H9 hl9 s9 hl99 => ?_)
      repeat walk_at "s"
      have s69 : Same H6 H9 := fun b o e => s9 b o (s8 b o (s7 b o e))
      have na8 : a8 ≠ p := fun z => hp6.live (z ▸ (But.of_same (S := []) s7).free ha8)
      have nl9 : l9 ≠ p := fun z => hp6.live (z ▸ (But.of_same (S := []) fun b o e => s8 b o (s7 b o e)).free hl9)
      refine ⟨p, l9, _, _, rfl, hp6.same s69, by omega, nl9, SqL.of hl99, by simp, by simp, fun i x H10 hi b10 hp10 => ?_⟩
      obtain ⟨d, hd, hnl⟩ : ∃ d, OdV K [p] H10 x d ∧ isListD d = false := by
        have hm := List.mem_of_getElem? hi
        simp only [List.mem_cons, List.not_mem_nil, or_false] at hm
        rcases hm with rfl | rfl | rfl | rfl | rfl
        · exact ⟨_, .dat .non, rfl⟩
        · refine ⟨.tuple ((ns.map fun i : Nat => (i : Int)).map .int), .dat (.tup (.of (b10.tup (s9 _ _ (s8 _ _ ht77)))) ?_), rfl⟩
          have := DnAll.ints (K := K) (S := [p]) (H := H10) (ns := ns.map fun i : Nat => (i : Int))
          rw [List.map_map] at this
          exact this
        · exact ⟨_, .dat (.str "0"), rfl⟩
        · exact ⟨dicD [], .dic (m := []) (b10.at (s9 _ _ ha88) (by simpa using na8)) (by simpa using na8), rfl⟩
        · exact ⟨_, .dat (.int 0), rfl⟩
      repeat walk_at "s"
      refine r_newT (sz (Nat.le_of_ble_eq_true rfl)) (fun r H11 hr s11 hr11 => ?_)
      exact k r x .non H11 (((b06.trans (But.of_same s69)).trans b10).trans (But.of_same s11)) ((hp10.same s11).mono (by omega)) (.of hr11) (.inl ⟨d, hd.same s11, hnl, rfl⟩) (.inl rfl)
    have xl : (ns.map fun i : Nat => V.int i).length = ns.length := List.length_map _
    have fin2 : ∀ (r x : Addr) (H' : Hp) (vs : List V) (ms : List Nat) (bad : V) (bd : PyData), Same H6 H' → SqT K H' r [.ref x, .int ms.length] → H' x = some (.lst vs) → vs.length ≤ 1000 → (∃ r, vs = (ms.map fun i : Nat => V.int i) ++ bad :: r) → Choice c ms → Dn K [p] H' bad bd → betB bd (lowOf ms) ((c : Int) - 1) = false → Q (.ref r) H' :=
      fun r x H' vs ms bad bd s hr hx hvl hvs hms hbd hb =>
        k r (.ref x) (.int ms.length) H' (b06.trans (But.of_same s)) ((hp6.same s).mono (by omega)) hr (.inr ⟨x, vs, ms, bad, bd, rfl, hx, hvl, hvs, hms, hbd, hb, rfl⟩) (.inr ⟨_, rfl, by have := hms.len; omega⟩)
    have last : ∀ {m : Nat} {ms : List Nat}, ns = ms ++ [m] → Choice c ms ∧ lowOf ns = (m : Int) + 1 ∧ m < c := fun {m ms} e => by
      subst e
      exact ⟨⟨(List.pairwise_append.mp hc.up).1, fun x hx => hc.hi x (List.mem_append_left _ hx)⟩, lowOf_snoc, hc.hi m (by simp)⟩
    have fin : ∀ (r x : Addr) (H' : Hp), Same H6 H' → SqT K H' r [.ref x, .int k1] → H' x = some (.lst (((ns.map fun i : Nat => V.int i).take k1 ++ [v]) ++ (ns.map fun i : Nat => V.int i).drop k1)) → Q (.ref r) H' := fun r x H' s hr hx => by
      have el : (ns.take k1).length = k1 := by rw [List.length_take]; omega
      refine fin2 r x H' _ (ns.take k1) v bd s (by rw [el]; exact hr) hx ?_ ⟨(ns.drop k1).map fun i : Nat => V.int i, by rw [List.map_take, List.map_drop, List.append_assoc]; rfl⟩ ⟨hc.up.sublist (List.take_sublist _ _), fun x hx => hc.hi x (List.mem_of_mem_take hx)⟩ (hv6.same s) (hbad _ (lowOf_nn _))
      rw [List.length_append, List.length_append, List.length_take, List.length_drop, xl, List.length_singleton]
      omega
    repeat walk_at "s"
    refine r_ite (fun hu1 => ?_) (fun hu1 => ?_)
    · repeat walk_at "s"
      refine r_newL (sz (Nat.le_of_ble_eq_true rfl)) (fun l7 H7 hl7 s7 hl77 => ?_)
      have ha7 := s7 _ _ ha6
      repeat walk_at "s"
      refine r_neLE ha7 hl77 ?_
      by_cases hne : ns = []
      · subst hne
        refine ⟨_, rfl, ?_⟩
        refine r_iteF rfl ?_
        repeat walk_at "s"
        refine r_iteF (decide_eq_false (by omega)) ?_
        repeat walk_at "s"
        try refine r_iteF rfl ?_
        repeat walk_at "s"
        refine r_slL (.of ha7) (fun q1 Ha hq1 sa hqa => ?_)
        rw [cut_to] at hqa
        repeat walk_at "s"
        refine r_newL (sz (Nat.le_of_ble_eq_true rfl)) (fun q2 Hb hq2 sb hqb => ?_)
        repeat walk_at "s"
        refine r_addL (sb _ _ hqa) hqb (sz (by rw [List.length_take, xl]; show min k1 _ + 1 ≤ 16777216; omega)) (fun q3 Hc hq3 sc hqc => ?_)
        repeat walk_at "s"
        refine r_slL (.of (sc _ _ (sb _ _ (sa _ _ ha7)))) (fun q4 Hd hq4 sd hqd => ?_)
        rw [cut_from] at hqd
        repeat walk_at "s"
        refine r_addL (sd _ _ hqc) hqd (sz (by rw [List.length_append, List.length_take, List.length_drop, xl, List.length_singleton]; omega)) (fun q5 He hq5 se hqe => ?_)
        repeat walk_at "s"
        refine r_newT (sz (Nat.le_of_ble_eq_true rfl)) (fun r Hf hr sf hrf => ?_)
        exact fin r q5 Hf (fun b o e => sf b o (se b o (sd b o (sc b o (sb b o (sa b o (s7 b o e)))))) ) (.of hrf) (sf _ _ hqe)
      · obtain ⟨ms, m, rfl⟩ : ∃ ms m, ns = ms ++ [m] := ⟨ns.dropLast, ns.getLast hne, (List.dropLast_concat_getLast hne).symm⟩
        obtain ⟨hms, hlow, hmc⟩ := last rfl
        refine ⟨_, rfl, ?_⟩
        refine r_iteT (by simp) ?_
        repeat walk_at "s"
        refine r_U ?_
        have ha7' : H7 a = some (.lst ((ms.map fun i : Nat => V.int i) ++ [V.int m])) := by rw [ha7, List.map_append]; rfl
        refine r_ixL (.of ha7') (atI_last _ _) ?_
        repeat walk_at "s"
        refine r_newL (sz (Nat.le_of_ble_eq_true rfl)) (fun q1 H8 hq1 s8 hq18 => ?_)
        repeat walk_at "s"
        refine r_addL (s8 _ _ ha7) hq18 (sz (by rw [xl]; show (ms ++ [m]).length + 1 ≤ 16777216; omega)) (fun q2 H9 hq2 s9 hq29 => ?_)
        repeat walk_at "s"
        have xl2 : ((ms.map fun i : Nat => V.int i) ++ [V.int m]).length = (ms ++ [m]).length := by simp
        rw [xl2]
        refine r_newT (sz (Nat.le_of_ble_eq_true rfl)) (fun r H10 hr s10 hr10 => ?_)
        have s6x : Same H6 H10 := fun b o e => s10 b o (s9 b o (s8 b o (s7 b o e)))
        refine fin2 r q2 H10 _ (ms ++ [m]) (.int m) (.int m) s6x (.of hr10) (s10 _ _ hq29) (by rw [List.length_append, xl]; show (ms ++ [m]).length + 1 ≤ 1000; omega) ⟨[], rfl⟩ hc (.int _) ?_
        rw [hlow]
        exact bet_no fun i e => by
          cases e
          omega
    refine r_iteF rfl ?_
    repeat walk_at "s"
    refine r_ite (fun hu2 => ?_) (fun hu2 => ?_)
    · repeat walk_at "s"
      rw [xl]
      refine r_ite (fun hlen => ?_) (fun hlen => ?_)
      · obtain ⟨ms, m2, m, rfl⟩ : ∃ ms m2 m, ns = ms ++ [m2, m] := by
          have h1 : ns ≠ [] := fun z => by rw [z] at hlen; simp at hlen
          have e1 := (List.dropLast_concat_getLast h1).symm
          have h2 : ns.dropLast ≠ [] := fun z => by
            rw [z] at e1
            rw [e1] at hlen
            simp at hlen
          refine ⟨ns.dropLast.dropLast, ns.dropLast.getLast h2, ns.getLast h1, ?_⟩
          have e2 := (List.dropLast_concat_getLast h2).symm
          have : ns.dropLast.dropLast ++ [ns.dropLast.getLast h2, ns.getLast h1] = (ns.dropLast.dropLast ++ [ns.dropLast.getLast h2]) ++ [ns.getLast h1] := by simp
          rw [this, ← e2]
          exact e1
        have hmm : m2 < m := by
          have h := (List.pairwise_append.mp hc.up).2.1
          exact (List.pairwise_cons.mp h).1 m (by simp)
        repeat walk_at "s"
        refine r_revL ?_
        repeat walk_at "s"
        refine ⟨a, _, rfl, .of ha6, fun q hq => ?_⟩
        obtain ⟨H7, e7, s7, hq7⟩ : ∃ H7, upd H6 q (.lst ((ms ++ [m2, m]).map fun i : Nat => V.int i).reverse) = H7 ∧ Same H6 H7 ∧ H7 q = some (.lst ((ms ++ [m2, m]).map fun i : Nat => V.int i).reverse) := ⟨_, rfl, (But.new (S := []) hq).same, upd_same⟩
        rw [e7]
        repeat walk_at "s"
        refine r_newT (sz (Nat.le_of_ble_eq_true rfl)) (fun r H8 hr s8 hr8 => ?_)
        have er : ((ms ++ [m2, m]).map fun i : Nat => V.int i).reverse = V.int m :: V.int m2 :: (ms.map fun i : Nat => V.int i).reverse := by simp
        refine fin2 r q H8 _ [m] (.int m2) (.int m2) (fun b o e => s8 b o (s7 b o e)) (.of hr8) (s8 _ _ hq7) (by rw [List.length_reverse, xl]; omega) ⟨(ms.map fun i : Nat => V.int i).reverse, er⟩ ⟨List.pairwise_singleton _ _, fun x hx => hc.hi x (by rw [List.mem_singleton.mp hx]; simp)⟩ (.int _) ?_
        have e1 : lowOf [m] = (m : Int) + 1 := rfl
        rw [e1]
        exact bet_no fun i e => by
          cases e
          omega
      · repeat walk_at "s"
        try refine r_iteF rfl ?_
        repeat walk_at "s"
        refine r_slL (.of ha6) (fun q1 Ha hq1 sa hqa => ?_)
        rw [cut_to] at hqa
        repeat walk_at "s"
        refine r_newL (sz (Nat.le_of_ble_eq_true rfl)) (fun q2 Hb hq2 sb hqb => ?_)
        repeat walk_at "s"
        refine r_addL (sb _ _ hqa) hqb (sz (by rw [List.length_take, xl]; show min k1 _ + 1 ≤ 16777216; omega)) (fun q3 Hc hq3 sc hqc => ?_)
        repeat walk_at "s"
        refine r_slL (.of (sc _ _ (sb _ _ (sa _ _ ha6)))) (fun q4 Hd hq4 sd hqd => ?_)
        rw [cut_from] at hqd
        repeat walk_at "s"
        refine r_addL (sd _ _ hqc) hqd (sz (by rw [List.length_append, List.length_take, List.length_drop, xl, List.length_singleton]; omega)) (fun q5 He hq5 se hqe => ?_)
        repeat walk_at "s"
        refine r_newT (sz (Nat.le_of_ble_eq_true rfl)) (fun r Hf hr sf hrf => ?_)
        exact fin r q5 Hf (fun b o e => sf b o (se b o (sd b o (sc b o (sb b o (sa b o (e)))))) ) (.of hrf) (sf _ _ hqe)
    · repeat walk_at "s"
      try refine r_iteF rfl ?_
      repeat walk_at "s"
      refine r_slL (.of ha6) (fun q1 Ha hq1 sa hqa => ?_)
      rw [cut_to] at hqa
      repeat walk_at "s"
      refine r_newL (sz (Nat.le_of_ble_eq_true rfl)) (fun q2 Hb hq2 sb hqb => ?_)
      repeat walk_at "s"
      refine r_addL (sb _ _ hqa) hqb (sz (by rw [List.length_take, xl]; show min k1 _ + 1 ≤ 16777216; omega)) (fun q3 Hc hq3 sc hqc => ?_)
      repeat walk_at "s"
      refine r_slL (.of (sc _ _ (sb _ _ (sa _ _ ha6)))) (fun q4 Hd hq4 sd hqd => ?_)
      rw [cut_from] at hqd
      repeat walk_at "s"
      refine r_addL (sd _ _ hqc) hqd (sz (by rw [List.length_append, List.length_take, List.length_drop, xl, List.length_singleton]; omega)) (fun q5 He hq5 se hqe => ?_)
      repeat walk_at "s"
      refine r_newT (sz (Nat.le_of_ble_eq_true rfl)) (fun r Hf hr sf hrf => ?_)
      exact fin r q5 Hf (fun b o e => sf b o (se b o (sd b o (sc b o (sb b o (sa b o (e)))))) ) (.of hrf) (sf _ _ hqe)
end
end L02

open PySem L2 PyProof.Rows J


namespace L02
theorem dok_ev {n k : Nat} {D : DM} (ok : DOk n k D) {u : Option (Int × PyData)} (h : ∀ w, u = some w → 0 ≤ w.1 ∧ w.1 < n ∧ blockB w.2 = true) : DOk n (k + 1) (D.ev u) := by
  cases u with
  | none => exact ok.flush
  | some w =>
    obtain ⟨h0, h1, h2⟩ := h w rfl
    exact ok.write h0 h1 h2
theorem rep0 (n : Nat) : (List.replicate n [V.int 0]).flatten = List.replicate n (V.int 0) := by
  induction n with
  | zero => rfl
  | succ n ih => rw [List.replicate_succ, List.flatten_cons, ih, List.replicate_succ]; rfl
/-! ### shapes -/
structure Sh (k : Nat) (d : PyData) : Prop where
  lay : d.canLay0 = true
  dep : d.depth ≤ k
theorem Sh.mono {k k' : Nat} {d : PyData} (h : Sh k d) (l : k ≤ k') : Sh k' d := ⟨h.lay, Nat.le_trans h.dep l⟩
theorem Sh.shaped {k : Nat} {d : PyData} (h : Sh k d) (l : k ≤ 64) : SeqAt.shaped d = true := by
  have := h.dep
  unfold SeqAt.shaped
  rw [h.lay, decide_eq_true (by omega)]; rfl
theorem Sh.eqv {k : Nat} {d : PyData} (h : Sh k d) : PyData.eqv d d = true := SeqAt.eqv_refl d h.lay
theorem sh_all {k : Nat} : ∀ {ds : List PyData}, (∀ d ∈ ds, Sh k d) → PyData.canLayAll0 ds = true ∧ PyData.depthAll ds ≤ k
  | [], _ => ⟨rfl, Nat.zero_le _⟩
  | d :: ds, h => by
    obtain ⟨h1, h2⟩ := sh_all (ds := ds) fun e he => h e (List.mem_cons_of_mem _ he)
    have h3 := h d List.mem_cons_self
    refine ⟨?_, Nat.max_le.mpr ⟨h3.dep, h2⟩⟩
    show (d.canLay0 && PyData.canLayAll0 ds) = true
    rw [h3.lay, h1]; rfl
theorem Sh.list {k : Nat} {ds : List PyData} (h : ∀ d ∈ ds, Sh k d) : Sh (k + 1) (.list ds) := ⟨(sh_all h).1, Nat.succ_le_succ (sh_all h).2⟩
theorem Sh.tup {k : Nat} {ds : List PyData} (h : ∀ d ∈ ds, Sh k d) : Sh (k + 1) (.tuple ds) := ⟨(sh_all h).1, Nat.succ_le_succ (sh_all h).2⟩
theorem Sh.int {k : Nat} {i : Int} : Sh k (.int i) := ⟨rfl, Nat.zero_le _⟩
theorem Sh.str {k : Nat} {x : Str} (h : PyData.strOk x = true) : Sh k (.str x) := ⟨h, Nat.zero_le _⟩
theorem Sh.non {k : Nat} : Sh k .none := ⟨rfl, Nat.zero_le _⟩
theorem Sh.ints {k : Nat} {ns : List Int} : Sh (k + 1) (.list (ns.map .int)) := Sh.list fun d hd => by
  obtain ⟨n, _, rfl⟩ := List.mem_map.mp hd
  exact .int
theorem blk_sh {v : PyData} (h : blockB v = true) : Sh 9 v := ⟨blockB_lay h, by
  have := valB_dep v 0 (blockB_val h)
  omega⟩
theorem dwr_sh {k : Nat} {c : Int × PyData} (h : Sh k c.2) : Sh (k + 1) (dWr c) := Sh.tup fun d hd => by
  rcases List.mem_cons.mp hd with rfl | hd
  · exact .int
  · rw [List.mem_singleton.mp hd]; exact h
theorem r_neSame {K : PySem.W.Frag} {S T : List Addr} {H : Hp} {Q : VK} {x y : V} {d : PyData} {k : Nat} (h1 : Dn K S H x d) (h2 : Dn K T H y d) (s : Sh k d) (hk : k ≤ 64) (q : Q (.bl false) H) : rNeA K x y H Q :=
  r_neD h1.dp h2.dp (s.shaped hk) (s.shaped hk) (by rw [s.eqv]; exact q)
theorem r_eqSame {K : PySem.W.Frag} {S T : List Addr} {H : Hp} {Q : VK} {x y : V} {d : PyData} {k : Nat} (h1 : Dn K S H x d) (h2 : Dn K T H y d) (s : Sh k d) (hk : k ≤ 64) (q : Q (.bl true) H) : rEqA K x y H Q :=
  r_eqD h1.dp h2.dp (s.shaped hk) (s.shaped hk) (by rw [s.eqv]; exact q)
section
variable {P : Program} {w : World} {K : PySem.W.Frag} {mg : Str → Option Value} {base : Heap} {CDisk CBC : Addr}
/-! ### replayed -/
def play0 (n : Nat) (evs : List (Option (Int × PyData))) : DM := DM.play (DM.new n) evs
def spReplayed (K : PySem.W.Frag) : Sp := fun vs H Q _ => ∃ (l : Addr) (n : Nat) (xs : List V) (evs : List (Option (Int × PyData))), vs = [.int n, .ref l] ∧ 1 ≤ n ∧ n ≤ 128 ∧ H l = some (.lst xs) ∧ DnAll K [] H xs (evs.map dEv) ∧
  (∀ w, some w ∈ evs → 0 ≤ w.1 ∧ w.1 < n ∧ blockB w.2 = true) ∧ evs.length ≤ 100 ∧
  ∀ t ls lp ys zs H', Same H H' → H ls = none → H lp = none → ls ≠ lp → SqT K H' t [.ref ls, .ref lp] → H' ls = some (.lst ys) → DnAll K [] H' ys (play0 n evs).safe → H' lp = some (.lst zs) → DnAll K [] H' zs ((play0 n evs).writes.map dWr) → DOk n evs.length (play0 n evs) → Q (.ref t) H'
abbrev s_law_replayed : Stmt := top 32
abbrev N_law_replayed : List Str := ["_law_size", "_law_events", "_law_safe", "_law_pending", "_law_event", "_law_block", "_law_value_here"]
theorem sc_law_replayed : FnScope N_law_replayed ["_law_size", "_law_events"] (defScope s_law_replayed) :=
  ⟨rfl, rfl, rfl, by decide +kernel, rfl, by decide +kernel, by decide +kernel⟩

theorem ok_replayed {f : Addr} {fd : FuncData} (F : Fun K "_law_replayed" "_law_replayed" s_law_replayed f fd) (B : Bl mg) :
    FnOk P w K mg base CX0 1 f fd ["_law_size", "_law_events"] (spReplayed K) := by
  refine F.ok sc_law_replayed (fun vs H Q E h => ?_) (fun cdv A outer s H vs Q E hr h => ?_)
  · obtain ⟨_, _, _, _, rfl, _⟩ := h
    rfl
  · obtain ⟨l, n, xs, evs, rfl, hn1, hn2, hl, hxs, hv, hel, k⟩ := h
    have hu := hu_of hr
    have nd := sc_law_replayed.nd
    have nlE : noLs (evs.map dEv) = true := noLs_map fun u hu => nol_dEv fun q e => blockB_nol (hv q (e ▸ hu)).2.2
    refine ⟨_, (pss_cons (ps_par (i := 2) (j := 3) rfl nd rfl rfl (by decide) rfl rfl (pa_cons (pe_op (op_mulA (K := K)) (pe_lst (pa_cons pe_int pa_nil)) (pv 0)) (pa_cons (pe_lst pa_nil) pa_nil)) (by rfl))
      (pss_cons (ps_for PassesOwn.never rfl (pi_lst (K := K) (pv 1)) (pg_name (i := 4) nd rfl (by first | exact Or.inl rfl | exact Or.inr rfl))
      (pss_one (ps_if (pt_cmpR (op_eqA (K := K) hr.units) (pe_ix (ix_any (K := K)) (pv 4) pe_int (fun _ _ => rfl)) pe_str (nomark _)) (pss_one (ps_set (i := 3) nd rfl (by first | exact Or.inl rfl | exact Or.inr rfl) (pe_op (op_addA (K := K)) (pv 3) (pe_lst (pa_cons (pe_tup (pa_cons (pe_ix (ix_any (K := K)) (pv 4) pe_int (fun _ _ => rfl)) (pa_cons (pe_ix (ix_any (K := K)) (pv 4) pe_int (fun _ _ => rfl)) pa_nil))) pa_nil))))) (pss_cons (ps_for PassesOwn.never rfl (pi_lst (K := K) (pv 3)) (pg_tpl (K := K) rfl (pgs_cons (pg_name (i := 5) nd rfl (by first | exact Or.inl rfl | exact Or.inr rfl)) (pgs_cons (pg_name (i := 6) nd rfl (by first | exact Or.inl rfl | exact Or.inr rfl)) pgs_nil)))
      (pss_one (ps_asg (pv 6) (pg_sub (pv 2) (pv 5) set_list))))
      (pss_one (ps_set (i := 3) nd rfl (by first | exact Or.inl rfl | exact Or.inr rfl) (pe_lst pa_nil)))))))
      (pss_one (ps_ret (pe_tup (pa_cons (pv 2) (pa_cons (pv 3) pa_nil))))))), ?_⟩
    repeat walk_at "s"
    refine r_newL (sz (Nat.le_of_ble_eq_true rfl)) (fun z H1 hz s1 hz1 => ?_)
    repeat walk_at "s"
    refine r_rep hz1 (by omega) (by simp; omega) (fun ls H2 hls s2 hls2 => ?_)
    rw [rep0] at hls2
    repeat walk_at "s"
    refine r_newL (sz (Nat.le_of_ble_eq_true rfl)) (fun lp H3 hlp s3 hlp3 => ?_)
    repeat walk_at "s"
    have s03 : Same H H3 := fun b o e => s3 b o (s2 b o (s1 b o e))
    have hl3 := s03 _ _ hl
    have hxs3 := hxs.same s03
    have fls : H ls = none := (But.of_same (S := []) s1).free hls
    have flp : H lp = none := ((But.of_same (S := []) s1).trans (But.of_same s2)).free hlp
    have nlls : l ≠ ls := fun e => live_of hl (e ▸ fls)
    have nlp : lp ≠ ls := fun e => live_of hls2 (e ▸ hlp)
    have d0 : DnAll K [] H3 (List.replicate n (V.int 0)) (DM.new n).safe := dn_zeros n
    refine forL (.of hl3) (fun i σ H' => ∃ lp o4 o5 o6 ys zs, σ = [some (.int n), some (.ref l), some (.ref ls), some (.ref lp), o4, o5, o6] ∧ But [ls] H3 H' ∧ H lp = none ∧ lp ≠ ls ∧ H' ls = some (.lst ys) ∧ DnAll K [] H' ys (play0 n (evs.take i)).safe ∧ H' lp = some (.lst zs) ∧ DnAll K [] H' zs ((play0 n (evs.take i)).writes.map dWr) ∧ DOk n i (play0 n (evs.take i)))
      ⟨_, _, _, _, _, _, rfl, .refl, flp, nlp, s3 _ _ hls2, d0, hlp3, .nil, DOk.new hn1 hn2⟩ ?_ ?_ ?_
    · rintro i σ H4 hi ⟨lp, o4, o5, o6, ys, zs, rfl, b4, _⟩
      exact .of (b4.at hl3 (by simpa using nlls))
    · rintro i x σ H4 hi ⟨lp, o4, o5, o6, ys, zs, rfl, b4, flp, nlp, hls4, vys, hlp4, vzs, ok⟩
      obtain ⟨du, hdu, hu2⟩ := hxs3.get hi
      obtain ⟨u, hu1, rfl⟩ := map_getG hdu
      have hum := List.mem_of_getElem? hu1
      have him : i < evs.length := (List.getElem?_eq_some_iff.mp hu1).1
      obtain ⟨p, rfl, hp⟩ := ev_inv hu2
      have step : play0 n (evs.take (i + 1)) = (play0 n (evs.take i)).ev u := foldl_takeG hu1
      have ok2 : DOk n (i + 1) (play0 n (evs.take (i + 1))) := by
        rw [step]
        exact dok_ev ok fun w e => hv w (e ▸ hum)
      have zl : zs.length ≤ i := by rw [vzs.length, List.length_map]; exact Nat.le_trans ok.wl ok.dl
      have yl : ys.length = n := by rw [vys.length, ok.sl]
      have s0b : But [ls] H H4 := (But.of_same s03).trans b4
      generalize play0 n (evs.take i) = D at *
      cases u with
      | some u =>
        obtain ⟨y, hp1, hy⟩ := hp
        have hp4 := b4.sqT hp1
        have nu := blockB_nol (hv u hum).2.2
        repeat walk_at "s"
        refine r_iteT (by decide +kernel) ?_
        repeat walk_at "s"
        refine r_newT (sz (Nat.le_of_ble_eq_true rfl)) (fun t1 H5 ht1 s5 ht15 => ?_)
        repeat walk_at "s"
        refine r_newL (sz (Nat.le_of_ble_eq_true rfl)) (fun l1 H6 hl1 s6 hl16 => ?_)
        repeat walk_at "s"
        refine r_addL (s6 _ _ (s5 _ _ hlp4)) hl16 (sz (by show zs.length + 1 ≤ 16777216; omega)) (fun l2 H7 hl2 s7 hl27 => ?_)
        have s47 : Same H4 H7 := fun b o e => s7 b o (s6 b o (s5 b o e))
        have nl2 : l2 ≠ ls := fun e => live_of (s6 _ _ (s5 _ _ hls4)) (e ▸ hl2)
        have fl2 : H l2 = none := s0b.free ((But.of_same (S := []) fun b o e => s6 b o (s5 b o e)).free hl2)
        refine ⟨l2, _, _, _, ys, _, rfl, b4.trans (But.of_same s47), fl2, nl2, s47 _ _ hls4, ?_, hl27, ?_, ok2⟩
        · rw [step]
          exact vys.same s47
        · rw [step]
          have e : (D.ev (some u)).writes.map dWr = D.writes.map dWr ++ [dWr u] := by simp [DM.ev, DM.write]
          rw [e]
          exact (vzs.same s47).snoc (.tup (.of (s7 _ _ (s6 _ _ ht15))) (.cons (.int _) (.one ((hy.nlb nu b4).same s47))))
      | none =>
        have hp4 : SqT K H4 p [.str "flush"] := b4.sqT hp
        have nlw : ∀ u ∈ D.writes, noL u.2 = true := fun u hu => blockB_nol (ok.wv u hu).2.2
        repeat walk_at "s"
        refine r_iteF (by decide +kernel) ?_
        repeat walk_at "s"
        refine forL (.of hlp4) (fun j σ H' => ∃ o5 o6 ws, σ = [some (.int n), some (.ref l), some (.ref ls), some (.ref lp), some (.ref p), o5, o6] ∧ But [ls] H4 H' ∧ H' ls = some (.lst ws) ∧ DnAll K [] H' ws (putAll (D.writes.take j) D.safe))
          ⟨_, _, _, rfl, .refl, hls4, vys⟩ ?_ ?_ ?_
        · rintro j σ H5 hj ⟨o5, o6, ws, rfl, b5, _⟩
          exact .of (b5.at hlp4 (by simpa using nlp))
        · rintro j x σ H5 hj ⟨o5, o6, ws, rfl, b5, hls5, vws⟩
          obtain ⟨dw, hdw, hw2⟩ := vzs.get hj
          obtain ⟨w1, hw1, rfl⟩ := map_getG hdw
          obtain ⟨q, y, rfl, hq, hy⟩ := wr_inv hw2
          have hwm := List.mem_of_getElem? hw1
          obtain ⟨hb0, hb1, hbb⟩ := ok.wv w1 hwm
          obtain ⟨bn, hbn⟩ := Int.eq_ofNat_of_zero_le hb0
          have stp : putAll (D.writes.take (j + 1)) D.safe = (putAll (D.writes.take j) D.safe).set w1.1.toNat w1.2 := foldl_takeG hw1
          have wl : ws.length = n := by rw [vws.length, putAll_length, ok.sl]
          have hq5 := b5.sqT hq
          repeat walk_at "s"
          rw [hbn]
          refine s_lst hls5 (ixN_nat (by omega)) (fun H6 b6 hls6 => ?_)
          refine ⟨_, _, _, rfl, b5.trans b6, hls6, ?_⟩
          rw [stp, hbn, Int.toNat_natCast]
          have nls : noLs (putAll (D.writes.take j) D.safe) = true := noLs_all.mpr fun z hz => by
            rcases putAll_mem hz with hz | ⟨q, hq, rfl⟩
            · exact blockB_nol (ok.sv z hz)
            · exact nlw q (List.mem_of_mem_take hq)
          exact DnAll.set bn (vws.nlb nls b6) (hy.nlb (nlw w1 hwm) (b5.trans b6))
        · rintro σ H5 ⟨o5, o6, ws, rfl, b5, hls5, vws⟩
          have ezl : zs.length = D.writes.length := by rw [vzs.length, List.length_map]
          rw [ezl, List.take_length] at vws
          repeat walk_at "s"
          refine r_newL (sz (Nat.le_of_ble_eq_true rfl)) (fun l2 H6 hl2 s6 hl26 => ?_)
          have nl2 : l2 ≠ ls := fun e => live_of hls5 (e ▸ hl2)
          have fl2 : H l2 = none := (s0b.trans b5).free hl2
          refine ⟨l2, _, _, _, ws, _, rfl, (b4.trans b5).trans (But.of_same s6), fl2, nl2, s6 _ _ hls5, ?_, hl26, ?_, ok2⟩
          · rw [step]
            exact vws.same s6
          · rw [step]
            exact .nil
    · rintro σ H4 ⟨lp, o4, o5, o6, ys, zs, rfl, b4, flp, nlp, hls4, vys, hlp4, vzs, ok⟩
      have exl : xs.length = evs.length := by rw [hxs.length, List.length_map]
      rw [exl, List.take_length] at vys vzs ok
      repeat walk_at "s"
      refine r_newT (sz (Nat.le_of_ble_eq_true rfl)) (fun t H5 ht s5 ht5 => ?_)
      have s05 : Same H H5 := by
        have b : But [ls] H H5 := ((But.of_same s03).trans b4).trans (But.of_same s5)
        exact (b.drop fls).same
      exact k t ls lp ys zs H5 s05 fls flp (Ne.symm nlp) (.of ht5) (s5 _ _ hls4) (vys.same s5) (s5 _ _ hlp4) (vzs.same s5) ok
/-! ### what the law does to the disks behind -/
theorem VOk.flush {D : DM} (v : VOk D) : VOk D.flush := ⟨fun x hx => by
    rcases putAll_mem hx with hx | ⟨q, hq, rfl⟩
    · exact v.s x hx
    · exact v.w q hq, fun u hu => by simp [DM.flush] at hu, fun u hu => v.e u (by simpa [DM.flush] using hu)⟩
theorem VOk.write {D : DM} (v : VOk D) {b : Int} {d : PyData} (h : Ok 3897 3 d) : VOk (D.write b d) := ⟨v.s, fun u hu => by
    rcases List.mem_append.mp hu with hu | hu
    · exact v.w u hu
    · rw [List.mem_singleton.mp hu]; exact h, fun u hu => by
    rcases List.mem_append.mp hu with hu | hu
    · exact v.e u hu
    · cases List.mem_singleton.mp hu; exact h⟩
theorem okNew : Ok 3897 3 (.str "new") := (okStr (n := 20) (x := "new") (by decide +kernel) (by decide +kernel)).mono (by decide) (by decide)
def spOddC (K : PySem.W.Frag) (CDisk : Addr) : Sp := fun vs H Q _ => ∃ (d : Addr) (fd : List Addr) (n m : Nat) (D : DM), vs = [.ref d, .int D.deeds.length] ∧ DiskAt K CDisk H d fd n m D ∧ m ≤ 100 ∧ ∀ H', Same H H' → Q (.bl true) H'
abbrev s_law_odd_counts : Stmt := top 39
abbrev N_law_odd_counts : List Str := ["_law_disk", "_law_many", "_law_odd"]
theorem sc_law_odd_counts : FnScope N_law_odd_counts ["_law_disk", "_law_many"] (defScope s_law_odd_counts) :=
  ⟨rfl, rfl, rfl, by decide +kernel, rfl, by decide +kernel, by decide +kernel⟩

theorem ok_odd_counts {f : Addr} {fd : FuncData} (F : Fun K "_law_odd_counts" "_law_odd_counts" s_law_odd_counts f fd) (B : Bl mg) (C_law_raised : ClG P w K mg base CX0 14 "_law_raised" (spRaised K CDisk)) :
    FnG P w K mg base CX0 15 f fd ["_law_disk", "_law_many"] (spOddC K CDisk) := by
  refine okG F sc_law_odd_counts (fun vs H Q E h => ?_) (fun cdv A outer s H vs Q E hr hgd h => ?_)
  · obtain ⟨_, _, _, _, _, rfl, _⟩ := h
    rfl
  · obtain ⟨d, fd, n, m, D, rfl, hD, hm, k⟩ := h
    have hu := hu_of hr
    have nd := sc_law_odd_counts.nd
    have hdl := hD.ok.dl
    refine ⟨_, (pss_cons (ps_for PassesOwn.never rfl (pi_lst (K := K) (pe_lst (pa_cons (pe_un un_neg pe_int) (pa_cons (pe_op (op_addA (K := K)) (pv 1) pe_int) (pa_cons pe_bl (pa_cons pe_non (pa_cons pe_str (pa_cons (pe_lst (pa_cons pe_int pa_nil)) (pa_cons pe_dnewK pa_nil))))))))) (pg_name (i := 2) nd rfl (by first | exact Or.inl rfl | exact Or.inr rfl))
      (pss_one (ps_if (pt_cmpR (op_neA (K := K) hr.units) (pe_clG (E := fun _ => E0) C_law_raised hr (by decide) hgd pass00 (pa_cons (pv 0) (pa_cons pe_int (pa_cons (pv 2) pa_nil)))) (pe_tup (pa_cons pe_str (pa_cons (pe_callB (call_reprOd (K := K) hgd hr.units) rfl B.repr (by decide +kernel) (pa_cons (pv 2) pa_nil)) (pa_cons pe_int pa_nil)))) (nomark _)) (pss_one (ps_ret pe_bl)) pss_nil)))
      (pss_one (ps_ret pe_bl))), ?_⟩
    repeat walk_at "s"
    refine r_U ?_
    repeat walk_at "s"
    refine r_newL (sz (Nat.le_of_ble_eq_true rfl)) (fun l1 H1 hl1 s1 hl11 => ?_)
    repeat walk_at "s"
    refine r_dnew (fun a H2 ha s2 ha2 => ?_)
    repeat walk_at "s"
    refine r_newL (sz (Nat.le_of_ble_eq_true rfl)) (fun lo H3 hlo s3 hlo3 => ?_)
    have s03 : Same H H3 := fun b o e => s3 b o (s2 b o (s1 b o e))
    have d1 : Dn K [] H3 (.ref l1) (.list [.int 1]) := .lst (s3 _ _ (s2 _ _ hl11)) (by simp) (.one (.int 1))
    have ha3 := s3 _ _ ha2
    have hD3 := hD.same s03
    refine forL (.of hlo3) (fun i σ H' => ∃ o3, σ = [some (.ref d), some (.int D.deeds.length), o3] ∧ Same H3 H') ⟨_, rfl, fun _ _ e => e⟩ ?_ ?_ ?_
    · rintro i σ H' hi ⟨o3, rfl, s4⟩
      exact .of (s4 _ _ hlo3)
    · rintro i x σ H' hi ⟨o3, rfl, s4⟩
      obtain ⟨dx, hx, hb, h1, h2, h3, h4⟩ : ∃ dx, OdV K [] H3 x dx ∧ betB dx 0 (D.deeds.length : Int) = false ∧ dx.showable = true ∧ dx.depth ≤ 60 ∧ dx.shown.length ≤ 1000 ∧ PyData.strOk dx.shown = true := by
        have hm := List.mem_of_getElem? hi
        simp only [List.mem_cons, List.not_mem_nil, or_false] at hm
        rcases hm with rfl | rfl | rfl | rfl | rfl | rfl | rfl
        · exact ⟨_, .dat (.int _), bet_no (fun i e => by cases e; omega), rfl, Nat.zero_le _, by decide +kernel, by decide +kernel⟩
        · have h : ∀ j : Fin 102, (PyData.int (j.1 : Int)).showable = true ∧ (PyData.int (j.1 : Int)).depth ≤ 60 ∧ (PyData.int (j.1 : Int)).shown.length ≤ 1000 ∧ PyData.strOk (PyData.int (j.1 : Int)).shown = true := by decide +kernel
          exact ⟨_, .dat (.int _), bet_no (fun i e => by cases e; omega), h ⟨D.deeds.length + 1, by omega⟩⟩
        · exact ⟨_, .dat (.bl true), rfl, rfl, Nat.zero_le _, by decide +kernel, by decide +kernel⟩
        · exact ⟨_, .dat .non, rfl, rfl, Nat.zero_le _, by decide +kernel, by decide +kernel⟩
        · exact ⟨_, .dat (.str "1"), rfl, by decide +kernel, Nat.zero_le _, by decide +kernel, by decide +kernel⟩
        · exact ⟨_, .dat d1, rfl, rfl, by decide, by decide +kernel, by decide +kernel⟩
        · exact ⟨dicD [], .dic (m := []) ha3 (by simp), rfl, rfl, by decide, by decide +kernel, by decide +kernel⟩
      have hx4 := hx.same s4
      repeat walk_at "s"
      refine ⟨d, fd, n, m, D, x, [], hD3.same s4, .inl ⟨dx, rfl, hx4, hb, h1, h2, Nat.le_trans h3 (by decide), fun t H5 s5 ht => ?_⟩⟩
      repeat walk_at "s"
      refine ⟨x, [], dx, rfl, hx4.same s5, h1, h2, Nat.le_trans h3 (by decide), ?_⟩
      repeat walk_at "s"
      refine r_newT (sz (Nat.le_of_ble_eq_true rfl)) (fun t2 H6 ht2 s6 ht26 => ?_)
      have sh : Sh 1 (.tuple [.str "count", .str dx.shown, .int 1]) := Sh.tup fun e he => by
        simp only [List.mem_cons, List.not_mem_nil, or_false] at he
        rcases he with rfl | rfl | rfl
        · exact .str (by decide +kernel)
        · exact .str h4
        · exact .int
      have e1 : Dn K [] H6 (.ref t) (.tuple [.str "count", .str dx.shown, .int 1]) := .tup ((But.of_same (S := []) s6).sqT ht) (.cons (.str _) (.cons (.str _) (.one (.int _))))
      have e2 : Dn K [] H6 (.ref t2) (.tuple [.str "count", .str dx.shown, .int 1]) := .tup (.of ht26) (.cons (.str _) (.cons (.str _) (.one (.int _))))
      refine r_neSame e1 e2 sh (by decide) ?_
      repeat walk_at "s"
      refine r_iteF rfl ?_
      exact ⟨_, rfl, fun b o e => s6 b o (s5 b o (s4 b o e))⟩
    · rintro σ H' ⟨o3, rfl, s4⟩
      repeat walk_at "s"
      exact k H' fun b o e => s4 b o (s03 b o e)
end
end L02

open PySem L2 PyProof.Rows J


namespace L02
theorem set0 {d : PyData} : ∀ {xs : List PyData}, 1 ≤ xs.length → (xs.set 0 d)[0]? = some d
  | [], h => by simp at h
  | _ :: _, _ => rfl
theorem ev_sh {n k : Nat} {D : DM} (ok : DOk n k D) : ∀ d ∈ D.deeds.map dEv, Sh 10 d := fun d hd => by
  obtain ⟨u, hu, rfl⟩ := List.mem_map.mp hd
  cases u with
  | none => exact ⟨by decide +kernel, by decide⟩
  | some u =>
    have h := blk_sh (ok.dv u hu).2.2
    exact Sh.tup fun e he => by
      simp only [List.mem_cons, List.not_mem_nil, or_false] at he
      rcases he with rfl | rfl | rfl
      · exact .str (by decide +kernel)
      · exact .int
      · exact h
theorem bt_frs {S T : List Addr} {H H1 H' : Hp} (h : But S H H1) (b : But T H1 H') (f : Fr T H) : But S H H' := bt_but h b fun t ht => .inr (f t ht)
section
variable {P : Program} {w : World} {K : PySem.W.Frag} {mg : Str → Option Value} {base : Heap} {CDisk CBC : Addr}
/-! ### flushed, goes_on -/
def newS : PyData := .str "new"
def spFlushed (K : PySem.W.Frag) (CDisk : Addr) : Sp := fun vs H Q _ => ∃ (d l : Addr) (fd : List Addr) (n m : Nat) (D : DM) (xs : List V), vs = [.ref d, .ref l] ∧ DiskAt K CDisk H d fd n m D ∧ m ≤ 90 ∧ H l = some (.lst xs) ∧ l ∉ fd ∧ DnAll K [] H xs (D.deeds.map dEv) ∧
  ∀ H', But fd H H' → Q (.bl true) H'
abbrev s_law_flushed : Stmt := top 38
abbrev N_law_flushed : List Str := ["_law_then", "_law_events"]
theorem sc_law_flushed : FnScope N_law_flushed ["_law_then", "_law_events"] (defScope s_law_flushed) :=
  ⟨rfl, rfl, rfl, by decide +kernel, rfl, by decide +kernel, by decide +kernel⟩

theorem ok_flushed {f : Addr} {fd : FuncData} (F : Fun K "_law_flushed" "_law_flushed" s_law_flushed f fd)
    (M_Disk_write : C8.Met P w K mg base 12 CDisk "write" (spWrite K CDisk) []) (M_Disk_flush : C8.Met P w K mg base 1 CDisk "flush" (spFlush K CDisk) []) (M_Disk_durable : C8.Met P w K mg base 1 CDisk "durable" (spCopyOf K CDisk DM.safe) []) (M_Disk_events : C8.Met P w K mg base 1 CDisk "events" (spCopyOf K CDisk fun D => D.deeds.map dEv) []) :
    FnOk P w K mg base CX0 13 f fd ["_law_then", "_law_events"] (spFlushed K CDisk) := by
  refine F.ok sc_law_flushed (fun vs H Q E h => ?_) (fun cdv A outer s H vs Q E hr h => ?_)
  · obtain ⟨_, _, _, _, _, _, _, rfl, _⟩ := h
    rfl
  · obtain ⟨d, l, fd, n, m, D, xs, rfl, hD, hm, hl, hlf, hxs, k⟩ := h
    have hu := hu_of hr
    have nd := sc_law_flushed.nd
    have ok := hD.ok
    have hn1 := ok.n1
    have nl4 := ok.nl4
    have xl : xs.length = D.deeds.length := by rw [hxs.length, List.length_map]
    have dl := ok.dl
    obtain ⟨_, dx, l1, l2, l3, l4, x1, x2, x3, x4, efd, hnd, h0, _⟩ := id hD
    refine ⟨_, (pss_cons (ps_expr (C8.pe_mt M_Disk_write hr (by decide) (pv 0) (pa_cons pe_int (pa_cons pe_str pa_nil))))
      (pss_cons (ps_expr (C8.pe_mt0 M_Disk_flush hr (by decide) (pv 0)))
      (pss_one (ps_ret (pe_and (pe_cmpR (op_eqA (K := K) hr.units) (pe_ix (ix_any (K := K)) (C8.pe_mt0 M_Disk_durable hr (by decide) (pv 0)) pe_int (fun _ _ => rfl)) pe_str (nomark _)) (pe_one (pe_cmpR (op_eqA (K := K) hr.units) (C8.pe_mt0 M_Disk_events hr (by decide) (pv 0)) (pe_op (op_addA (K := K)) (pv 1) (pe_lst (pa_cons (pe_tup (pa_cons pe_str (pa_cons pe_int (pa_cons pe_str pa_nil)))) (pa_cons (pe_tup (pa_cons pe_str pa_nil)) pa_nil)))) (nomark _)))))))), ?_⟩
    repeat walk_at "s"
    refine r_methAt h0 (by with_unfolding_all rfl) ?_
    repeat walk_at "s"
    refine ⟨d, fd, n, m, D, 0, _, [], newS, rfl, hD, by omega, by decide, by omega, .str "new", by decide +kernel, fun H1 b1 hD1 => ?_⟩
    obtain ⟨dx1, _, _, _, _, _, _, _, _, _, _, h01, _⟩ := hD1.ex
    repeat walk_at "s"
    refine r_methAt h01 (by with_unfolding_all rfl) ?_
    refine ⟨d, fd, n, m + 1, _, rfl, hD1, by omega, fun H2 b2 hD2 => ?_⟩
    obtain ⟨dx2, _, _, _, _, _, _, _, _, _, _, h02, _⟩ := hD2.ex
    have b02 : But fd H H2 := b1.trans b2
    have hl2 := b02.at hl hlf
    have hxs2 : DnAll K [] H2 xs (D.deeds.map dEv) := hxs.nlb nl4 b02
    repeat walk_at "s"
    refine r_methAt h02 (by with_unfolding_all rfl) ?_
    refine ⟨d, fd, n, _, _, rfl, hD2, fun la xa H3 hla s3 hla3 va => ?_⟩
    have hD3 := hD2.same s3
    have h03 := s3 _ _ h02
    repeat walk_at "s"
    have e0 : ((D.write 0 newS).flush).safe = (putAll D.writes D.safe).set 0 newS := by
      show J.putAll (D.writes ++ [(0, newS)]) D.safe = (J.putAll D.writes D.safe).set 0 newS
      unfold J.putAll
      rw [List.foldl_append]; rfl
    have g0 : ((D.write 0 newS).flush).safe[0]? = some newS := by
      rw [e0]
      exact set0 (by rw [putAll_length, ok.sl]; exact hn1)
    obtain ⟨y, hy, hyd⟩ := va.getD g0
    obtain rfl := (show Dn K [] H3 y (.str "new") from hyd).str_inv
    refine r_ixL (.of hla3) (atI_nat (j := 0) hy) ?_
    repeat walk_at "s"
    refine r_iteT (by decide +kernel) ?_
    repeat walk_at "s"
    refine r_methAt h03 (by with_unfolding_all rfl) ?_
    refine ⟨d, fd, n, _, _, rfl, hD3, fun lb xb H4 hlb s4 hlb4 vb => ?_⟩
    repeat walk_at "s"
    refine r_newT (sz (Nat.le_of_ble_eq_true rfl)) (fun t1 H5 ht1 s5 ht15 => ?_)
    repeat walk_at "s"
    refine r_newT (sz (Nat.le_of_ble_eq_true rfl)) (fun t2 H6 ht2 s6 ht26 => ?_)
    repeat walk_at "s"
    refine r_newL (sz (Nat.le_of_ble_eq_true rfl)) (fun q H7 hq s7 hq7 => ?_)
    have s27 : Same H2 H7 := fun b o e => s7 b o (s6 b o (s5 b o (s4 b o (s3 b o e))))
    repeat walk_at "s"
    refine r_addL (s27 _ _ hl2) hq7 (sz (by show xs.length + 2 ≤ 16777216; omega)) (fun r H8 hr s8 hr8 => ?_)
    have s48 : Same H4 H8 := fun b o e => s8 b o (s7 b o (s6 b o (s5 b o e)))
    have s28 : Same H2 H8 := fun b o e => s8 b o (s27 b o e)
    have ed : ((D.write 0 newS).flush).deeds.map dEv = D.deeds.map dEv ++ [dEv (some (0, newS)), dEv none] := by simp [DM.flush, DM.write]
    have d1 : Dn K [] H8 (.ref lb) (.list (((D.write 0 newS).flush).deeds.map dEv)) := .lst (s48 _ _ hlb4) (by simp) (vb.same s48)
    have d2 : Dn K [] H8 (.ref r) (.list (((D.write 0 newS).flush).deeds.map dEv)) := by
      rw [ed]
      refine .lst hr8 (by simp) ((hxs2.same s28).append (.cons (.tup (.of (s8 _ _ (s7 _ _ (s6 _ _ ht15)))) ?_) (.one (.tup (.of (s8 _ _ (s7 _ _ ht26))) (.one (.str _))))))
      exact .cons (.str _) (.cons (.int _) (.one (.str _)))
    refine r_eqSame d1 d2 (Sh.list (ev_sh hD2.ok)) (by decide) ?_
    exact k H8 (b02.trans (But.of_same s28))
def spGoesOn (K : PySem.W.Frag) (CDisk : Addr) : Sp := fun vs H Q _ => ∃ (d l : Addr) (fd : List Addr) (n : Nat) (vals : List PyData) (xs : List V), vs = [.ref d, .ref l] ∧ DiskAt K CDisk H d fd n 0 ⟨vals, vals, [], []⟩ ∧ (∀ v ∈ vals, Ok 3897 3 v) ∧ H l = some (.lst xs) ∧ l ∉ fd ∧ DnAll K [] H xs vals ∧
  ∀ H', But fd H H' → Q (.bl true) H'
abbrev s_law_goes_on : Stmt := top 37
abbrev N_law_goes_on : List Str := ["_law_left", "_law_due"]
theorem sc_law_goes_on : FnScope N_law_goes_on ["_law_left", "_law_due"] (defScope s_law_goes_on) :=
  ⟨rfl, rfl, rfl, by decide +kernel, rfl, by decide +kernel, by decide +kernel⟩

theorem ok_goes_on {f : Addr} {fd : FuncData} (F : Fun K "_law_goes_on" "_law_goes_on" s_law_goes_on f fd) (B : Bl mg)
    (M_Disk_write : C8.Met P w K mg base 12 CDisk "write" (spWrite K CDisk) []) (M_Disk_flush : C8.Met P w K mg base 1 CDisk "flush" (spFlush K CDisk) []) (M_Disk_after : C8.Met P w K mg base 13 CDisk "after" (spAfter K CDisk) []) (C_law_seen : ClG P w K mg base CX0 2 "_law_seen" (spSeen K CDisk)) :
    FnG P w K mg base CX0 14 f fd ["_law_left", "_law_due"] (spGoesOn K CDisk) := by
  refine okG F sc_law_goes_on (fun vs H Q E h => ?_) (fun cdv A outer s H vs Q E hr hgd h => ?_)
  · obtain ⟨_, _, _, _, _, _, rfl, _⟩ := h
    rfl
  · obtain ⟨d, l, fd, n, vals, xs, rfl, hD, hvo, hl, hlf, hxs, k⟩ := h
    have hu := hu_of hr
    have nd := sc_law_goes_on.nd
    have ok := hD.ok
    have hn1 := ok.n1
    have nlv : noLs vals = true := ok.nl2
    have vo0 : VOk ⟨vals, vals, [], []⟩ := ⟨hvo, fun u hu => by simp at hu, fun u hu => by simp at hu⟩
    obtain ⟨_, dx, l1, l2, l3, l4, x1, x2, x3, x4, efd, hnd, h0, _⟩ := id hD
    refine ⟨_, (pss_cons (ps_expr (C8.pe_mt0 M_Disk_flush hr (by decide) (pv 0)))
      (pss_cons (ps_if (pt_cmpR (op_neA (K := K) hr.units) (pe_clG (E := fun _ => E0) C_law_seen hr (by decide) hgd pass00 (pa_cons (pv 0) pa_nil)) (pe_callB (call_reprA (K := K) hgd hr.units) rfl B.repr (by decide +kernel) (pa_cons (pe_lst (pa_cons (pv 1) (pa_cons (pe_lst pa_nil) (pa_cons (pe_lst (pa_cons (pe_tup (pa_cons pe_str pa_nil)) pa_nil)) pa_nil)))) pa_nil)) (nomark _)) (pss_one (ps_ret pe_bl)) pss_nil)
      (pss_cons (ps_set (i := 0) nd rfl (by first | exact Or.inl rfl | exact Or.inr rfl) (C8.pe_mt M_Disk_after hr (by decide) (pv 0) (pa_cons pe_int pa_nil)))
      (pss_cons (ps_expr (C8.pe_mt M_Disk_write hr (by decide) (pv 0) (pa_cons pe_int (pa_cons pe_str pa_nil))))
      (pss_cons (ps_if (pt_cmpR (op_neA (K := K) hr.units) (pe_clG (E := fun _ => E0) C_law_seen hr (by decide) hgd pass00 (pa_cons (C8.pe_mt M_Disk_after hr (by decide) (pv 0) (pa_cons pe_int pa_nil)) pa_nil)) (pe_callB (call_reprA (K := K) hgd hr.units) rfl B.repr (by decide +kernel) (pa_cons (pe_lst (pa_cons (pv 1) (pa_cons (pe_lst pa_nil) (pa_cons (pe_lst pa_nil) pa_nil)))) pa_nil)) (nomark _)) (pss_one (ps_ret pe_bl)) pss_nil)
      (pss_one (ps_ret (pe_cmpR (op_eqA (K := K) hr.units) (pe_clG (E := fun _ => E0) C_law_seen hr (by decide) hgd pass00 (pa_cons (pv 0) pa_nil)) (pe_callB (call_reprA (K := K) hgd hr.units) rfl B.repr (by decide +kernel) (pa_cons (pe_lst (pa_cons (pv 1) (pa_cons (pe_lst (pa_cons (pe_tup (pa_cons pe_int (pa_cons pe_str pa_nil))) pa_nil)) (pa_cons (pe_lst (pa_cons (pe_tup (pa_cons pe_str (pa_cons pe_int (pa_cons pe_str pa_nil)))) pa_nil)) pa_nil)))) pa_nil)) (nomark _))))))))), ?_⟩
    repeat walk_at "s"
    refine r_methAt h0 (by with_unfolding_all rfl) ?_
    refine ⟨d, fd, n, 0, _, rfl, hD, by decide, fun H1 b1 hD1 => ?_⟩
    have hl1 := b1.at hl hlf
    have hxs1 : DnAll K [] H1 xs vals := hxs.nlb nlv b1
    obtain ⟨dx1, _, _, _, _, _, _, _, _, _, _, h01, _⟩ := hD1.ex
    repeat walk_at "s"
    refine ⟨d, fd, n, _, _, rfl, hD1, vo0.flush, by decide, fun H2 s2 => ?_⟩
    repeat walk_at "s"
    refine r_newL (sz (Nat.le_of_ble_eq_true rfl)) (fun q1 H3 hq1 s3 hq13 => ?_)
    repeat walk_at "s"
    refine r_newT (sz (Nat.le_of_ble_eq_true rfl)) (fun t1 H4 ht1 s4 ht14 => ?_)
    repeat walk_at "s"
    refine r_newL (sz (Nat.le_of_ble_eq_true rfl)) (fun q2 H5 hq2 s5 hq25 => ?_)
    repeat walk_at "s"
    refine r_newL (sz (Nat.le_of_ble_eq_true rfl)) (fun q3 H6 hq3 s6 hq36 => ?_)
    have s26 : Same H2 H6 := fun b o e => s6 b o (s5 b o (s4 b o (s3 b o e)))
    have s16 : Same H1 H6 := fun b o e => s26 b o (s2 b o e)
    have hok1 := okSeen hD1.ok vo0.flush (by decide)
    have df : Dn K [] H6 (.ref q3) (seenD (DM.flush ⟨vals, vals, [], []⟩)) :=
      .lst hq36 (by simp) (.cons (.lst (s16 _ _ hl1) (by simp) (hxs1.same s16)) (.cons (.lst (s6 _ _ (s5 _ _ (s4 _ _ hq13))) (by simp) .nil) (.one (.lst (s6 _ _ hq25) (by simp) (.one (.tup (.of (s6 _ _ (s5 _ _ ht14))) (.one (.str _))))))))
    repeat walk_at "s"
    refine r_reprOk df hok1 (by decide) (by decide) ?_
    repeat walk_at "s"
    refine r_iteF (by simp) ?_
    have hD6 := hD1.same s16
    have h06 := s16 _ _ h01
    have hl6 := s16 _ _ hl1
    have hxs6 := hxs1.same s16
    have b06 : But fd H H6 := b1.trans (But.of_same s16)
    clear s2 s3 s4 s5 s6 s26 s16 df hq13 ht14 hq25 hq36 hD1 hl1 hxs1 h01 b1
    repeat walk_at "s"
    refine r_methAt h06 (by with_unfolding_all rfl) ?_
    repeat walk_at "s"
    refine ⟨d, fd, n, _, _, 0, rfl, hD6, Nat.zero_le _, by decide, fun e ls H7 hf s7 hE => ?_⟩
    have hE7 : DiskAt K CDisk H7 e (e :: ls) n 0 ⟨vals, vals, [], []⟩ := hE
    have hl7 := s7 _ _ hl6
    have hxs7 := hxs6.same s7
    have nle : l ∉ e :: ls := fun z => live_of hl6 (hf l z)
    generalize hfe : e :: ls = fe at hf hE7 nle
    clear hE
    obtain ⟨dx7, _, _, _, _, _, _, _, _, efe, _, h07, _⟩ := hE7.ex
    repeat walk_at "s"
    refine r_methAt h07 (by with_unfolding_all rfl) ?_
    repeat walk_at "s"
    refine ⟨e, fe, n, 0, _, 0, _, [], newS, rfl, hE7, by decide, by decide, by omega, .str "new", by decide +kernel, fun H8 b8 hE8 => ?_⟩
    have hl8 := b8.at hl7 nle
    have hxs8 : DnAll K [] H8 xs vals := hxs7.nlb nlv b8
    have b08 : But fd H H8 := bt_frs (b06.trans (But.of_same s7)) b8 fun t ht => b06.free (hf t ht)
    obtain ⟨dx8, _, _, _, _, _, _, _, _, _, _, h08, _⟩ := hE8.ex
    have vo8 : VOk (DM.write ⟨vals, vals, [], []⟩ 0 newS) := vo0.write okNew
    clear b06 s7 b8 hf
    repeat walk_at "s"
    refine r_methAt h08 (by with_unfolding_all rfl) ?_
    repeat walk_at "s"
    refine ⟨e, fe, n, _, _, 0, rfl, hE8, Nat.zero_le _, by decide, fun e2 ls2 H9 hf2 s9 hG => ?_⟩
    have hG9 : DiskAt K CDisk H9 e2 (e2 :: ls2) n 0 ⟨vals, vals, [], []⟩ := hG
    repeat walk_at "s"
    refine ⟨e2, e2 :: ls2, n, 0, _, rfl, hG9, vo0, by decide, fun H10 s10 => ?_⟩
    repeat walk_at "s"
    refine r_newL (sz (Nat.le_of_ble_eq_true rfl)) (fun q1 H11 hq1 s11 hq11 => ?_)
    repeat walk_at "s"
    refine r_newL (sz (Nat.le_of_ble_eq_true rfl)) (fun q2 H12 hq2 s12 hq22 => ?_)
    repeat walk_at "s"
    refine r_newL (sz (Nat.le_of_ble_eq_true rfl)) (fun q3 H13 hq3 s13 hq33 => ?_)
    have s813 : Same H8 H13 := fun b o e => s13 b o (s12 b o (s11 b o (s10 b o (s9 b o e))))
    have hok2 := okSeen ok vo0 (by decide)
    have dg : Dn K [] H13 (.ref q3) (seenD ⟨vals, vals, [], []⟩) :=
      .lst hq33 (by simp) (.cons (.lst (s813 _ _ hl8) (by simp) (hxs8.same s813)) (.cons (.lst (s13 _ _ (s12 _ _ hq11)) (by simp) .nil) (.one (.lst (s13 _ _ hq22) (by simp) .nil))))
    repeat walk_at "s"
    refine r_reprOk dg hok2 (by decide) (by decide) ?_
    repeat walk_at "s"
    refine r_iteF (by simp) ?_
    have hE13 := hE8.same s813
    have hl13 := s813 _ _ hl8
    have hxs13 := hxs8.same s813
    have b013 : But fd H H13 := b08.trans (But.of_same s813)
    clear s9 s10 s11 s12 s13 s813 dg hq11 hq22 hq33 hG hG9 hf2
    repeat walk_at "s"
    refine ⟨e, fe, n, _, _, rfl, hE13, vo8, by decide, fun H14 s14 => ?_⟩
    repeat walk_at "s"
    refine r_newT (sz (Nat.le_of_ble_eq_true rfl)) (fun t1 H15 ht1 s15 ht15 => ?_)
    repeat walk_at "s"
    refine r_newL (sz (Nat.le_of_ble_eq_true rfl)) (fun q1 H16 hq1 s16 hq16 => ?_)
    repeat walk_at "s"
    refine r_newT (sz (Nat.le_of_ble_eq_true rfl)) (fun t2 H17 ht2 s17 ht27 => ?_)
    repeat walk_at "s"
    refine r_newL (sz (Nat.le_of_ble_eq_true rfl)) (fun q2 H18 hq2 s18 hq28 => ?_)
    repeat walk_at "s"
    refine r_newL (sz (Nat.le_of_ble_eq_true rfl)) (fun q3 H19 hq3 s19 hq39 => ?_)
    have s719 : Same H17 H19 := fun b o e => s19 b o (s18 b o e)
    have s1619 : Same H16 H19 := fun b o e => s719 b o (s17 b o e)
    have s1319 : Same H13 H19 := fun b o e => s1619 b o (s16 b o (s15 b o (s14 b o e)))
    have hok3 := okSeen hE13.ok vo8 (by decide)
    have dh : Dn K [] H19 (.ref q3) (seenD (DM.write ⟨vals, vals, [], []⟩ 0 newS)) :=
      .lst hq39 (by simp) (.cons (.lst (s1319 _ _ hl13) (by simp) (hxs13.same s1319)) (.cons (.lst (s1619 _ _ hq16) (by simp) (.one (.tup (.of (s1619 _ _ (s16 _ _ ht15))) (.cons (.int _) (.one (.str _)))))) (.one (.lst (s19 _ _ hq28) (by simp) (.one (.tup (.of (s719 _ _ ht27)) (.cons (.str _) (.cons (.int _) (.one (.str _))))))))))
    repeat walk_at "s"
    refine r_reprOk dh hok3 (by decide) (by decide) ?_
    repeat walk_at "s"
    have et : ∀ a : Str, decide (a = a) = true := fun a => by simp
    rw [et]
    exact k H19 (b013.trans (But.of_same s1319))
end
end L02

open PySem L2 PyProof.Rows J


namespace L02
theorem play_deeds : ∀ (es : List (Option (Int × PyData))) (D : DM), (DM.play D es).deeds = D.deeds ++ es
  | [], D => (List.append_nil _).symm
  | e :: es, D => by
    have h := play_deeds es (D.ev e)
    show (DM.play (D.ev e) es).deeds = _
    rw [h]
    have : (D.ev e).deeds = D.deeds ++ [e] := by cases e <;> rfl
    rw [this, List.append_assoc]; rfl
theorem VOk.ev {D : DM} (v : VOk D) {u : Option (Int × PyData)} (h : ∀ q, u = some q → Ok 3897 3 q.2) : VOk (D.ev u) := by
  cases u with
  | none => exact v.flush
  | some q => exact v.write (h q rfl)
theorem VOk.play : ∀ (es : List (Option (Int × PyData))) (D : DM), VOk D → (∀ q, some q ∈ es → Ok 3897 3 q.2) → VOk (DM.play D es)
  | [], D, v, _ => v
  | e :: es, D, v, h => VOk.play es (D.ev e) (v.ev fun q hq => h q (hq ▸ List.mem_cons_self)) fun q hq => h q (List.mem_cons_of_mem _ hq)
theorem VOk.new (n : Nat) : VOk (DM.new n) := ⟨fun v hv => by rw [List.eq_of_mem_replicate hv]; exact ⟨rfl, rfl, by decide, by decide +kernel⟩, fun u hu => by simp [DM.new] at hu, fun u hu => by simp [DM.new] at hu⟩
theorem VE.ok3 {d : PyData} (h : VE 2 d) : Ok 3897 3 d := h.ok.mono (by decide) (by decide)
section
variable {P : Program} {w : World} {K : PySem.W.Frag} {mg : Str → Option Value} {base : Heap} {CDisk : Addr}
def spLaw (K : PySem.W.Frag) : Sp := fun vs H Q _ => ∃ (a : Addr) (ns : List Int), vs = [.ref a] ∧ SqL K H a (ns.map V.int) ∧ ns.length ≤ 63 ∧ ∀ H', Q (.bl true) H'
abbrev s_law : Stmt := top 40
abbrev N_law : List Str := ["_law_script", "_law_cell", "_law_well_here", "_law_size", "_law_disk", "_law_turn", "_law_many", "_law_then", "_law_kept_here", "_law_handed", "_law_left", "_law_due", "_law_at", "_law_seen_here", "_law_events", "_law_safe", "_law_pending", "_law_bad", "_law_place", "_law_block", "_law_value_here", "_law_k"]
theorem sc_law : FnScope N_law ["_law_script"] (defScope s_law) :=
  ⟨rfl, rfl, rfl, by decide +kernel, rfl, by decide +kernel, by decide +kernel⟩

theorem ok_law {f : Addr} {fd : FuncData} (F : Fun K "law" "law" s_law f fd) (B : Bl mg) (T : TDisk K CDisk)
    (C_law_cell_at : Cl P w K mg base CX0 1 "_law_cell_at" (spCell K)) (C_law_well : Cl P w K mg base CX0 1 "_law_well" spWell) (C_law_draw : Cl P w K mg base CX0 1 "_law_draw" spDraw)
    (N_Disk : C8.Mak P w K mg base 3 "Disk" CDisk (spDiskInit K CDisk) []) (C_law_value : Cl P w K mg base CX0 5 "_law_value" (spValue K 2))
    (C_law_seen : ClG P w K mg base CX0 2 "_law_seen" (spSeen K CDisk)) (C_law_replayed : Cl P w K mg base CX0 1 "_law_replayed" (spReplayed K)) (C_law_kept : Cl P w K mg base CX0 2 "_law_kept" (spKeptL K))
    (C_law_bad_kept : Cl P w K mg base CX0 3 "_law_bad_kept" (spBadKept K)) (C_law_raised : ClG P w K mg base CX0 14 "_law_raised" (spRaised K CDisk)) (C_law_odd_counts : ClG P w K mg base CX0 15 "_law_odd_counts" (spOddC K CDisk))
    (C_law_flushed : Cl P w K mg base CX0 13 "_law_flushed" (spFlushed K CDisk)) (C_law_goes_on : ClG P w K mg base CX0 14 "_law_goes_on" (spGoesOn K CDisk))
    (M_Disk_write : C8.Met P w K mg base 12 CDisk "write" (spWrite K CDisk) []) (M_Disk_flush : C8.Met P w K mg base 1 CDisk "flush" (spFlush K CDisk) []) (M_Disk_read : C8.Met P w K mg base 4 CDisk "read" (spRead K CDisk) [])
    (M_Disk_events : C8.Met P w K mg base 1 CDisk "events" (spCopyOf K CDisk fun D => D.deeds.map dEv) []) (M_Disk_after : C8.Met P w K mg base 13 CDisk "after" (spAfter K CDisk) []) (M_Disk_crashed : C8.Met P w K mg base 6 CDisk "crashed" (spCrashed K CDisk) []) :
    FnG P w K mg base CX0 16 f fd ["_law_script"] (spLaw K) := by
  refine okG F sc_law (fun vs H Q E h => ?_) (fun cdv A outer s H vs Q E hr hgd h => ?_)
  · obtain ⟨_, _, rfl, _⟩ := h
    rfl
  · obtain ⟨a, ns, rfl, ha, hns, k⟩ := h
    have hu := hu_of hr
    have nd := sc_law.nd
    obtain ⟨tc, n1, n2, n3, n4⟩ := T
    refine ⟨_, (pss_cons (ps_for PassesOwn.never rfl (pi_lst (K := K) (pe_op (op_addA (K := K)) (pe_lst (pa_cons (pe_cl (E := fun _ => E0) C_law_cell_at hr (by decide) pass00 (pa_cons (pv 0) (pa_cons pe_int pa_nil))) pa_nil)) (pe_slice (sl_any (K := K)) (pv 0) (po_some pe_int) (po_some pe_int)))) (pg_name (i := 1) nd rfl (by first | exact Or.inl rfl | exact Or.inr rfl))
      (pss_cons (ps_set (i := 2) nd rfl (by first | exact Or.inl rfl | exact Or.inr rfl) (pe_cl (E := fun _ => E0) C_law_well hr (by decide) pass00 (pa_cons (pv 1) pa_nil)))
      (pss_cons (ps_set (i := 3) nd rfl (by first | exact Or.inl rfl | exact Or.inr rfl) (pe_op (op_addA (K := K)) pe_int (pe_cl (E := fun _ => E0) C_law_draw hr (by decide) pass00 (pa_cons (pv 2) (pa_cons pe_int pa_nil)))))
      (pss_cons (ps_set (i := 4) nd rfl (by first | exact Or.inl rfl | exact Or.inr rfl) (C8.pe_mk N_Disk hr (by decide) rfl (pa_cons (pv 3) pa_nil)))
      (pss_cons (ps_for PassesOwn.never rfl (pi_range1 rfl B.range (pa_cons (pe_cl (E := fun _ => E0) C_law_draw hr (by decide) pass00 (pa_cons (pv 2) (pa_cons pe_int pa_nil))) pa_nil)) (pg_name (i := 5) nd rfl (by first | exact Or.inl rfl | exact Or.inr rfl))
      (pss_one (ps_if (pt_cmpR (op_eqA (K := K) hr.units) (pe_cl (E := fun _ => E0) C_law_draw hr (by decide) pass00 (pa_cons (pv 2) (pa_cons pe_int pa_nil))) pe_int (nomark _)) (pss_one (ps_expr (C8.pe_mt0 M_Disk_flush hr (by decide) (pv 4)))) (pss_one (ps_expr (C8.pe_mt M_Disk_write hr (by decide) (pv 4) (pa_cons (pe_cl (E := fun _ => E0) C_law_draw hr (by decide) pass00 (pa_cons (pv 2) (pa_cons (pv 3) pa_nil))) (pa_cons (pe_cl (E := fun _ => E0) C_law_value hr (by decide) pass00 (pa_cons (pv 2) (pa_cons pe_int pa_nil))) pa_nil))))))))
      (pss_cons (ps_par (i := 13) (j := 14) rfl nd rfl rfl (by decide) rfl rfl (pa_cons (pe_clG (E := fun _ => E0) C_law_seen hr (by decide) hgd pass00 (pa_cons (pv 4) pa_nil)) (pa_cons (C8.pe_mt0 M_Disk_events hr (by decide) (pv 4)) pa_nil)) (by rfl))
      (pss_cons (ps_set (i := 6) nd rfl (by first | exact Or.inl rfl | exact Or.inr rfl) (pe_cl (E := fun _ => E0) C_law_draw hr (by decide) pass00 (pa_cons (pv 2) (pa_cons (pe_op (op_addA (K := K)) (pe_callB (call_lenA (K := K)) rfl B.len PySem.boot_len (pa_cons (pv 14) pa_nil)) pe_int) pa_nil))))
      (pss_cons (ps_asg (pe_cl (E := fun _ => E0) C_law_replayed hr (by decide) pass00 (pa_cons (pv 3) (pa_cons (pe_slice (sl_any (K := K)) (pv 14) po_none (po_some (pv 6))) pa_nil))) (pg_tpl (K := K) rfl (pgs_cons (pg_name (i := 15) nd rfl (by first | exact Or.inl rfl | exact Or.inr rfl)) (pgs_cons (pg_name (i := 16) nd rfl (by first | exact Or.inl rfl | exact Or.inr rfl)) pgs_nil))))
      (pss_cons (ps_set (i := 7) nd rfl (by first | exact Or.inl rfl | exact Or.inr rfl) (C8.pe_mt M_Disk_after hr (by decide) (pv 4) (pa_cons (pv 6) pa_nil)))
      (pss_cons (ps_if (pt_cmpR (op_neA (K := K) hr.units) (pe_clG (E := fun _ => E0) C_law_seen hr (by decide) hgd pass00 (pa_cons (pv 7) pa_nil)) (pe_callB (call_reprA (K := K) hgd hr.units) rfl B.repr (by decide +kernel) (pa_cons (pe_lst (pa_cons (pv 15) (pa_cons (pv 16) (pa_cons (pe_slice (sl_any (K := K)) (pv 14) po_none (po_some (pv 6))) pa_nil)))) pa_nil)) (nomark _)) (pss_one (ps_ret pe_bl)) pss_nil)
      (pss_cons (ps_set (i := 8) nd rfl (by first | exact Or.inl rfl | exact Or.inr rfl) (pe_cl (E := fun _ => E0) C_law_kept hr (by decide) pass00 (pa_cons (pv 2) (pa_cons (pe_callB (call_lenA (K := K)) rfl B.len PySem.boot_len (pa_cons (pv 16) pa_nil)) pa_nil))))
      (pss_cons (ps_set (i := 9) nd rfl (by first | exact Or.inl rfl | exact Or.inr rfl) (pe_callTy (call_listA (K := K)) rfl B.list (by decide +kernel) (pa_cons (pv 8) pa_nil)))
      (pss_cons (ps_set (i := 10) nd rfl (by first | exact Or.inl rfl | exact Or.inr rfl) (C8.pe_mt M_Disk_crashed hr (by decide) (pv 7) (pa_cons (pv 9) pa_nil)))
      (pss_cons (ps_set (i := 11) nd rfl (by first | exact Or.inl rfl | exact Or.inr rfl) (pe_callTy (call_listA (K := K)) rfl B.list (by decide +kernel) (pa_cons (pv 15) pa_nil)))
      (pss_cons (ps_for PassesOwn.never rfl (pi_lst (K := K) (pv 8)) (pg_name (i := 12) nd rfl (by first | exact Or.inl rfl | exact Or.inr rfl))
      (pss_cons (ps_asg (pe_ix (ix_any (K := K)) (pv 16) (pv 12) (fun _ _ => rfl)) (pg_tpl (K := K) rfl (pgs_cons (pg_name (i := 19) nd rfl (by first | exact Or.inl rfl | exact Or.inr rfl)) (pgs_cons (pg_name (i := 20) nd rfl (by first | exact Or.inl rfl | exact Or.inr rfl)) pgs_nil))))
      (pss_one (ps_asg (pv 20) (pg_sub (pv 11) (pv 19) set_list)))))
      (pss_cons (ps_if (PW.pt (pw_or (pt_cmpR (op_neA (K := K) hr.units) (pv 9) (pv 8) (nomark _)) (pw_or (pt_cmpR (op_neA (K := K) hr.units) (pe_clG (E := fun _ => E0) C_law_seen hr (by decide) hgd pass00 (pa_cons (pv 10) pa_nil)) (pe_callB (call_reprA (K := K) hgd hr.units) rfl B.repr (by decide +kernel) (pa_cons (pe_lst (pa_cons (pv 11) (pa_cons (pe_lst pa_nil) (pa_cons (pe_lst pa_nil) pa_nil)))) pa_nil)) (nomark _)) (pw_or1 (pt_cmpR (op_neA (K := K) hr.units) (pe_lc (own := [("_law_k", 21)]) (g := (gName 21)) (tt := tYes) rfl nd (pi_range1 rfl B.range (pa_cons (pv 3) pa_nil)) (blkOk_by (own := [("_law_k", 21)]) (N := N_law) (sc := defScope s_law) (by decide +kernel)) (fun _ _ _ _ _ => (pg_name (i := 21) nd rfl (by first | exact Or.inl rfl | exact Or.inr rfl))) (fun _ _ _ _ _ => pts_nil) (fun _ _ _ _ _ => C8.pe_mt M_Disk_read hr (by decide) (pv 10) (pa_cons (pv 21) pa_nil))) (pv 11) (nomark _)))))) (pss_one (ps_ret pe_bl)) pss_nil)
      (pss_cons (ps_asg (pe_cl (E := fun _ => E0) C_law_bad_kept hr (by decide) pass00 (pa_cons (pv 2) (pa_cons (pv 8) (pa_cons (pe_callB (call_lenA (K := K)) rfl B.len PySem.boot_len (pa_cons (pv 16) pa_nil)) pa_nil)))) (pg_tpl (K := K) rfl (pgs_cons (pg_name (i := 17) nd rfl (by first | exact Or.inl rfl | exact Or.inr rfl)) (pgs_cons (pg_name (i := 18) nd rfl (by first | exact Or.inl rfl | exact Or.inr rfl)) pgs_nil))))
      (pss_cons (ps_if (pt_cmpR (op_neA (K := K) hr.units) (pe_clG (E := fun _ => E0) C_law_raised hr (by decide) hgd pass00 (pa_cons (pv 7) (pa_cons pe_int (pa_cons (pv 17) pa_nil)))) (pe_tup (pa_cons pe_str (pa_cons (pv 18) (pa_cons pe_int pa_nil)))) (nomark _)) (pss_one (ps_ret pe_bl)) pss_nil)
      (pss_cons (ps_if (pt_not (pt_tru (K := K) (pe_clG (E := fun _ => E0) C_law_odd_counts hr (by decide) hgd pass00 (pa_cons (pv 4) (pa_cons (pe_callB (call_lenA (K := K)) rfl B.len PySem.boot_len (pa_cons (pv 14) pa_nil)) pa_nil))))) (pss_one (ps_ret pe_bl)) pss_nil)
      (pss_cons (ps_if (PW.pt (pw_or (pt_not (pt_tru (K := K) (pe_cl (E := fun _ => E0) C_law_flushed hr (by decide) pass00 (pa_cons (pv 7) (pa_cons (pe_slice (sl_any (K := K)) (pv 14) po_none (po_some (pv 6))) pa_nil))))) (pw_or (pt_not (pt_tru (K := K) (pe_clG (E := fun _ => E0) C_law_goes_on hr (by decide) hgd pass00 (pa_cons (pv 10) (pa_cons (pv 11) pa_nil))))) (pw_or1 (pt_cmpR (op_neA (K := K) hr.units) (pe_clG (E := fun _ => E0) C_law_seen hr (by decide) hgd pass00 (pa_cons (pv 4) pa_nil)) (pv 13) (nomark _)))))) (pss_one (ps_ret pe_bl)) pss_nil)
      (pss_one (ps_if (pt_cmpR (op_neA (K := K) hr.units) (pe_clG (E := fun _ => E0) C_law_seen hr (by decide) hgd pass00 (pa_cons (C8.pe_mt M_Disk_after hr (by decide) (pv 4) (pa_cons (pv 6) pa_nil)) pa_nil)) (pe_callB (call_reprA (K := K) hgd hr.units) rfl B.repr (by decide +kernel) (pa_cons (pe_lst (pa_cons (pv 15) (pa_cons (pv 16) (pa_cons (pe_slice (sl_any (K := K)) (pv 14) po_none (po_some (pv 6))) pa_nil)))) pa_nil)) (nomark _)) (pss_one (ps_ret pe_bl)) pss_nil))))))))))))))))))))))
      (pss_one (ps_ret pe_bl))), ?_⟩
    repeat walk_at "s"
    refine ⟨a, ns, 0, rfl, ha, by omega, by omega, fun z0 => ?_⟩
    repeat walk_at "s"
    refine r_newL (sz (Nat.le_of_ble_eq_true rfl)) (fun l0 H1 hl0 s1 hl01 => ?_)
    repeat walk_at "s"
    refine r_slL (s1.seq ha) (fun l1 H2 hl1 s2 hl12 => ?_)
    have ec : cutV (ns.map V.int) (some 1) (some 5) = ((ns.map V.int).drop 1).take (5 - 1) := cut_fromTo (n := 1) (m := 5)
    rw [ec, ← List.map_drop, ← List.map_take] at hl12
    refine r_addL (s2 _ _ hl01) hl12 (sz (by simp; omega)) (fun LL H3 hL s3 hL3 => ?_)
    have eL : [V.int z0] ++ ((ns.drop 1).take (5 - 1)).map V.int = (z0 :: (ns.drop 1).take (5 - 1)).map V.int := rfl
    rw [eL] at hL3
    generalize z0 :: (ns.drop 1).take (5 - 1) = cells at hL3
    refine forL (SqL.of hL3) (fun i σ H' => ∃ o1 o2 o3 o4 o5 o6 o7 o8 o9 o10 o11 o12 o13 o14 o15 o16 o17 o18 o19 o20 o21, σ = [some (.ref a), o1, o2, o3, o4, o5, o6, o7, o8, o9, o10, o11, o12, o13, o14, o15, o16, o17, o18, o19, o20, o21] ∧ H' LL = some (.lst (cells.map V.int)))
      ⟨_, _, _, _, _, _, _, _, _, _, _, _, _, _, _, _, _, _, _, _, _, rfl, hL3⟩ ?_ ?_ ?_
    · rintro i σ H4 hi ⟨o1, o2, o3, o4, o5, o6, o7, o8, o9, o10, o11, o12, o13, o14, o15, o16, o17, o18, o19, o20, o21, rfl, hL4⟩
      exact SqL.of hL4
    · rintro i x σ H4 hi ⟨o1, o2, o3, o4, o5, o6, o7, o8, o9, o10, o11, o12, o13, o14, o15, o16, o17, o18, o19, o20, o21, rfl, hL4⟩
      rw [List.getElem?_map] at hi
      obtain ⟨cell, hcell, rfl⟩ := Option.map_eq_some_iff.mp hi
      clear hL3 hl12 hl01 s1 s2 s3 ha hi hL hl0 hl1
      repeat walk_at "s"
      refine ⟨cell, rfl, fun p H5 hp s5 hp5 => ?_⟩
      repeat walk_at "s"
      refine ⟨p, 0, 12, rfl, hp5, by omega, by decide, by decide, fun u1 H6 hu10 hu11 b6 hp6 => ?_⟩
      obtain ⟨n, hn⟩ : ∃ n : Nat, (1 : Int) + u1 = (n : Int) := ⟨(1 + u1).toNat, by omega⟩
      have hn1 : 1 ≤ n := by omega
      have hn2 : n ≤ 128 := by omega
      have Fp : Fr [p] H4 := fun t ht => by rw [List.mem_singleton.mp ht]; exact hp
      have b46 : But [] H4 H6 := bt_frs (But.of_same s5) b6 Fp
      have hp6' : SrcAt H6 p 1 := hp6.mono (by omega)
      clear s5 b6 hp5 hp6
      repeat walk_at "s"
      rw [hn]
      refine r_makeAt (fun d dx H10 hd s10 hd10 => ?_)
      refine ⟨d, dx, n, rfl, hd10, hn1, hn2, fun fd H11 hfd b11 hD => ⟨rfl, ?_⟩⟩
      have fd4 : H4 d = none := b46.free hd
      have b411 : But [] H4 H11 := bt_frs (b46.trans (But.of_same s10)) b11 (fun t ht => by rw [List.mem_singleton.mp ht]; exact fd4)
      have Ff : Fr (d :: fd) H4 := fun t ht => (List.mem_cons.mp ht).elim (fun e => e ▸ fd4) fun h => (b46.trans (But.of_same s10)).free (hfd t h)
      have npd : d ≠ p := fun z => hp6'.live (z ▸ hd)
      have npf : p ∉ d :: fd := fun z => (List.mem_cons.mp z).elim (fun e => npd e.symm) fun h => (hp6'.same s10).live (hfd p h)
      have hp11 : SrcAt H11 p 1 := (hp6'.same s10).but b11 (by simpa using npd.symm)
      generalize d :: fd = fd at hD Ff npf
      have s411 := b411.same
      clear s10 b11 hd10 hp6' b46 hfd b411 hd
      repeat walk_at "s"
      refine ⟨p, _, 41, rfl, hp11, by omega, by decide, by decide, fun tn H18 ht0 ht1 b18 hp18 => ?_⟩
      have s418 : Same H4 H18 := (bt_frs (But.of_same s411) b18 Fp : But [] H4 H18).same
      have hD18 := hD.but b18 (fun x hx z => npf ((List.mem_singleton.mp z) ▸ hx))
      clear s411 b18 hp11 hD
      refine forR (by omega) (fun i σ H' => ∃ o5 D, σ = [some (.ref a), some (.int cell), some (.ref p), some (.int n), some (.ref d), o5, o6, o7, o8, o9, o10, o11, o12, o13, o14, o15, o16, o17, o18, o19, o20, o21] ∧ Same H4 H' ∧ SrcAt H' p (2 + 60 * i) ∧ DiskAt K CDisk H' d fd n i D ∧ D.first = zeros n ∧ VOk D)
        ⟨_, _, rfl, s418, hp18.mono (by omega), hD18, rfl, VOk.new n⟩ ?_ ?_
      · rintro i σ H19 hi ⟨o5, D, rfl, s19, hp19, hD19, hfi, vo⟩
        have hil : i < 41 := by omega
        repeat walk_at "s"
        refine ⟨p, _, 6, rfl, hp19, by omega, by decide, by decide, fun u2 H20 hu20 hu21 b20 hp20 => ?_⟩
        have s420 : Same H4 H20 := (bt_frs (But.of_same s19) b20 Fp : But [] H4 H20).same
        have hD20 := hD19.but b20 (fun x hx z => npf ((List.mem_singleton.mp z) ▸ hx))
        obtain ⟨dx20, _, _, _, _, _, _, _, _, _, _, h020, _⟩ := hD20.ex
        clear s19 b20 hp19 hD19
        repeat walk_at "s"
        refine r_ite (fun _ => ?_) (fun _ => ?_)
        · repeat walk_at "s"
          refine r_methAt h020 (by with_unfolding_all rfl) ?_
          refine ⟨d, fd, n, i, D, rfl, hD20, by omega, fun H21 b21 hD21 => ?_⟩
          exact ⟨_, _, rfl, (bt_frs (But.of_same s420) b21 Ff : But [] H4 H21).same, (hp20.but b21 npf).mono (by omega), hD21, hfi, vo.flush⟩
        · repeat walk_at "s"
          refine r_methAt h020 (by with_unfolding_all rfl) ?_
          repeat walk_at "s"
          refine ⟨p, _, n, rfl, hp20, by omega, by omega, by omega, fun u3 H21 hu30 hu31 b21 hp21 => ?_⟩
          have s421 : Same H4 H21 := (bt_frs (But.of_same s420) b21 Fp : But [] H4 H21).same
          have hD21 := hD20.but b21 (fun x hx z => npf ((List.mem_singleton.mp z) ▸ hx))
          clear b21 s420 hD20 hp20
          repeat walk_at "s"
          refine ⟨p, _, rfl, hp21, by have : drw 2 = 52 := rfl; omega, fun v dv H22 hv b22 hp22 hdv => ?_⟩
          have s422 : Same H4 H22 := (bt_frs (But.of_same s421) b22 Fp : But [] H4 H22).same
          have hD22 := hD21.but b22 (fun x hx z => npf ((List.mem_singleton.mp z) ▸ hx))
          clear b22 s421 hD21 hp21
          repeat walk_at "s"
          refine ⟨d, fd, n, i, D, u3, v, [], dv, rfl, hD22, by omega, hu30, hu31, hdv, hv.blk (by decide), fun H23 b23 hD23 => ?_⟩
          exact ⟨_, _, rfl, (bt_frs (But.of_same s422) b23 Ff : But [] H4 H23).same, (hp22.but b23 npf).mono (by have : drw 2 = 52 := rfl; omega), hD23, hfi, vo.write hv.ok3⟩
      · rintro σ H19 ⟨o5, D, rfl, s19, hp19, hD19, hfi, vo⟩
        have htn : tn.toNat ≤ 40 := by omega
        generalize tn.toNat = tm at htn hp19 hD19
        obtain ⟨_, dx19, _, _, _, _, _, _, _, _, _, _, h019, _⟩ := id hD19
        clear ht0 ht1 hp18 hD18 s418
        repeat walk_at "s"
        refine ⟨d, fd, n, tm, D, rfl, hD19, vo, by omega, fun H20 s20 => ?_⟩
        repeat walk_at "s"
        refine r_methAt (s20 _ _ h019) (by with_unfolding_all rfl) ?_
        refine ⟨d, fd, n, tm, D, rfl, hD19.same s20, fun le xe H21 hle s21 hle21 ve => ?_⟩
        have ok := hD19.ok
        have dl := ok.dl
        have xel : xe.length = D.deeds.length := by rw [ve.length, List.length_map]
        have s421 : Same H4 H21 := fun b o e => s21 b o (s20 b o (s19 b o e))
        have s1921 : Same H19 H21 := fun b o e => s21 b o (s20 b o e)
        have hD21 := hD19.same s1921
        have hp21 := hp19.same s1921
        have lvd := hD19.live
        have fle : le ∉ fd := fun z => (hD19.same s20).live le z hle
        have nlep : le ≠ p := fun z => (hp19.same s20).live (z ▸ hle)
        refine ⟨_, _, rfl, ?_⟩
        clear s19 s20 s21 s1921 hD19 hp19 h019 hle lvd
        repeat walk_at "s"
        rw [xel]
        refine ⟨p, _, _, rfl, hp21, by omega, by omega, by omega, fun mi H22 hmi0 hmi1 b22 hp22 => ?_⟩
        obtain ⟨mu, rfl⟩ := Int.eq_ofNat_of_zero_le hmi0
        have hmu : mu ≤ D.deeds.length := by omega
        have s422 : Same H4 H22 := (bt_frs (But.of_same s421) b22 Fp : But [] H4 H22).same
        have hD22 := hD21.but b22 (fun x hx z => npf ((List.mem_singleton.mp z) ▸ hx))
        have hle22 := b22.at hle21 (by simpa using nlep)
        have ve22 : DnAll K [] H22 xe (D.deeds.map dEv) := ve.nlb ok.nl4 b22
        clear b22 s421 hD21 hp21 hle21 ve
        have vE : VOk (D.after mu) := VOk.play _ _ (by rw [hfi]; exact VOk.new n) fun q hq => vo.e q (List.mem_of_mem_take hq)
        have eP : play0 n (D.deeds.take mu) = D.after mu := by
          unfold play0 DM.after
          rw [hfi]; rfl
        have eD : (D.after mu).deeds = D.deeds.take mu := by
          unfold DM.after
          rw [play_deeds]; rfl
        repeat walk_at "s"
        refine r_slL (.of hle22) (fun q1 H23 hq1 s23 hq13 => ?_)
        rw [cut_to] at hq13
        have vq : DnAll K [] H22 (xe.take mu) ((D.deeds.take mu).map dEv) := by rw [List.map_take]; exact ve22.take mu
        repeat walk_at "s"
        refine ⟨q1, n, _, D.deeds.take mu, rfl, hn1, hn2, hq13, vq.same s23, fun w hw => ok.dv w (List.mem_of_mem_take hw), by rw [List.length_take]; omega, fun t ls lp ys zs H24 s24 fls flp nlsp ht hls vys hlp vzs okP => ?_⟩
        rw [eP] at vys vzs okP
        have s2224 : Same H22 H24 := fun b o e => s24 b o (s23 b o e)
        have hD24 := hD22.same s2224
        have s424 : Same H4 H24 := fun b o e => s2224 b o (s422 b o e)
        have hle24 := s2224 _ _ hle22
        have ve24 := ve22.same s2224
        have hp24 := hp22.same s2224
        have f22ls : H22 ls = none := (But.of_same (S := []) s23).free fls
        have f22lp : H22 lp = none := (But.of_same (S := []) s23).free flp
        have nlsp2 : ls ≠ p := fun z => hp22.live (z ▸ f22ls)
        have nlpp : lp ≠ p := fun z => hp22.live (z ▸ f22lp)
        have fls4 : H4 ls = none := (But.of_same (S := []) s422).free f22ls
        have flp4 : H4 lp = none := (But.of_same (S := []) s422).free f22lp
        have zl : zs.length = (D.after mu).writes.length := by rw [vzs.length, List.length_map]
        clear s23 s24 s2224 s422 hD22 hp22 hle22 ve22 hq13 vq fls flp f22ls f22lp
        obtain ⟨_, dx24, _, _, _, _, _, _, _, _, _, _, h024, _⟩ := id hD24
        repeat walk_at "s"
        refine r_methAt h024 (by with_unfolding_all rfl) ?_
        repeat walk_at "s"
        refine ⟨d, fd, n, tm, D, mu, rfl, hD24, hmu, by omega, fun e es H25 hfe s25 hE25 => ?_⟩
        have Fe : Fr (e :: es) H4 := fun x hx => (But.of_same (S := []) s424).free (hfe x hx)
        have npe : p ∉ e :: es := fun z => hp24.live (hfe p z)
        have nlse : ls ∉ e :: es := fun z => live_of hls (hfe ls z)
        have nlpe : lp ∉ e :: es := fun z => live_of hlp (hfe lp z)
        have nlee : le ∉ e :: es := fun z => live_of hle24 (hfe le z)
        have dde : Dj fd (e :: es) := fun x hx hy => hD24.live x hx (hfe x hy)
        generalize hEE : e :: es = fe at Fe npe nlse nlpe nlee dde hE25
        generalize hED : D.after mu = E at *
        have s425 : Same H4 H25 := fun b o e => s25 b o (s424 b o e)
        have hD25 := hD24.same s25
        have hp25 := hp24.same s25
        have hle25 := s25 _ _ hle24
        have ve25 := ve24.same s25
        have hls25 := s25 _ _ hls
        have vys25 := vys.same s25
        have hlp25 := s25 _ _ hlp
        have vzs25 := vzs.same s25
        clear s25 s424 hD24 hp24 hle24 ve24 hls vys hlp vzs h024 ht hfe
        repeat walk_at "s"
        refine ⟨e, fe, n, mu, E, rfl, hE25, vE, by omega, fun H26 s26 => ?_⟩
        repeat walk_at "s"
        refine r_slL (.of (s26 _ _ hle25)) (fun q2 H27 hq2 s27 hq27 => ?_)
        rw [cut_to] at hq27
        repeat walk_at "s"
        refine r_newL (sz (Nat.le_of_ble_eq_true rfl)) (fun q3 H28 hq3 s28 hq38 => ?_)
        have s2528 : Same H25 H28 := fun b o e => s28 b o (s27 b o (s26 b o e))
        have hokE := okSeen okP vE (by rw [List.length_take]; omega)
        have dvE : DnAll K [] H28 (xe.take mu) (E.deeds.map dEv) := by rw [eD, List.map_take]; exact (ve25.same s2528).take mu
        have dsE : Dn K [] H28 (.ref q3) (seenD E) := .lst hq38 (by simp) (.cons (.lst (s2528 _ _ hls25) (by simp) (vys25.same s2528)) (.cons (.lst (s2528 _ _ hlp25) (by simp) (vzs25.same s2528)) (.one (.lst (s28 _ _ hq27) (by simp) dvE))))
        repeat walk_at "s"
        refine r_reprOk dsE hokE (by decide) (by decide) ?_
        repeat walk_at "s"
        refine r_iteF (by simp) ?_
        have s428 : Same H4 H28 := fun b o e => s2528 b o (s425 b o e)
        have hD28 := hD25.same s2528
        have hE28 := hE25.same s2528
        have hp28 := hp25.same s2528
        have hle28 := s2528 _ _ hle25
        have ve28 := ve25.same s2528
        have hls28 := s2528 _ _ hls25
        have vys28 := vys25.same s2528
        have hlp28 := s2528 _ _ hlp25
        have vzs28 := vzs25.same s2528
        clear s26 s27 s28 s2528 s425 hD25 hE25 hp25 hle25 ve25 hls25 vys25 hlp25 vzs25 dsE dvE hq27 hq38
        repeat walk_at "s"
        rw [zl]
        refine ⟨p, _, E.writes.length, rfl, hp28, by omega, by have := okP.wl; have := okP.dl; rw [List.length_take] at *; omega, fun lk ns2 H29 hlk b29 hp29 hlk29 hch => ?_⟩
        have nlkp : lk ≠ p := fun z => hp28.live (z ▸ hlk)
        have hD29 := hD28.but b29 (fun x hx z => npf ((List.mem_singleton.mp z) ▸ hx))
        have hE29 := hE28.but b29 (fun x hx z => npe ((List.mem_singleton.mp z) ▸ hx))
        have hle29 := b29.at hle28 (by simpa using nlep)
        have ve29 : DnAll K [] H29 xe (D.deeds.map dEv) := ve28.nlb ok.nl4 b29
        have hls29 := b29.at hls28 (by simpa using nlsp2)
        have vys29 : DnAll K [] H29 ys E.safe := vys28.nlb okP.nl2 b29
        have hlp29 := b29.at hlp28 (by simpa using nlpp)
        have vzs29 : DnAll K [] H29 zs (E.writes.map dWr) := vzs28.nlb okP.nl3 b29
        have s429 : Same H4 H29 := (bt_frs (But.of_same s428) b29 Fp : But [] H4 H29).same
        have nlkf : lk ∉ fe := fun z => hE28.live lk z hlk
        have nlkd : lk ∉ fd := fun z => hD28.live lk z hlk
        clear b29 s428 hD28 hE28 hp28 hle28 ve28 hls28 vys28 hlp28 vzs28 hlk
        obtain ⟨_, dx29, _, _, _, _, _, _, _, _, efe, _, h029, _⟩ := id hE29
        dsimp only
        repeat walk_at "s"
        refine r_listL (.of hlk29) (fun lh H30 hlh s30 hlh30 => ?_)
        repeat walk_at "s"
        refine r_methAt (s30 _ _ h029) (by with_unfolding_all rfl) ?_
        repeat walk_at "s"
        refine ⟨e, lh, fe, n, mu, E, ns2, rfl, hE29.same s30, hlh30, hch, by omega, fun g gs H31 hfg s31 hG => ?_⟩
        generalize hvals : J.putAll (E.keepW ns2) E.safe = vals
        have hG31 : DiskAt K CDisk H31 g (g :: gs) n 0 ⟨vals, vals, [], []⟩ := by rw [← hvals]; exact hG
        have s2931 : Same H29 H31 := fun b o e => s31 b o (s30 b o e)
        have Fg : Fr (g :: gs) H4 := fun x hx => (But.of_same (S := []) fun b o e => s30 b o (s429 b o e)).free (hfg x hx)
        have npg : p ∉ g :: gs := fun z => hp29.live ((But.of_same (S := []) s30).free (hfg p z))
        have deg : Dj fe (g :: gs) := fun x hx hy => hE29.live x hx ((But.of_same (S := []) s30).free (hfg x hy))
        have ddg : Dj fd (g :: gs) := fun x hx hy => hD29.live x hx ((But.of_same (S := []) s30).free (hfg x hy))
        have nlsg : ls ∉ g :: gs := fun z => live_of (s30 _ _ hls29) (hfg ls z)
        have nlpg : lp ∉ g :: gs := fun z => live_of (s30 _ _ hlp29) (hfg lp z)
        have nleg : le ∉ g :: gs := fun z => live_of (s30 _ _ hle29) (hfg le z)
        generalize hGG : g :: gs = fg at Fg npg hG31 deg ddg nlsg nlpg nleg
        have hlh31 := s31 _ _ hlh30
        have hlk31 := s2931 _ _ hlk29
        have hD31 := hD29.same s2931
        have hE31 := hE29.same s2931
        have hp31 := hp29.same s2931
        have hle31 := s2931 _ _ hle29
        have ve31 := ve29.same s2931
        have hls31 := s2931 _ _ hls29
        have vys31 := vys29.same s2931
        have hlp31 := s2931 _ _ hlp29
        have vzs31 := vzs29.same s2931
        have s431 : Same H4 H31 := fun b o e => s2931 b o (s429 b o e)
        clear s30 s31 s2931 s429 hD29 hE29 hp29 hle29 ve29 hls29 vys29 hlp29 vzs29 hlk29 hlh30 hG hfg hlh h029
        repeat walk_at "s"
        refine r_listL (.of hls31) (fun ldu H32 hldu s32 hldu32 => ?_)
        have hlk32 := s32 _ _ hlk31
        have hlp32 := s32 _ _ hlp31
        have vzs32 := vzs31.same s32
        have hlkd : lk ≠ ldu := fun z => live_of hlk31 (z ▸ hldu)
        have hlpd : lp ≠ ldu := fun z => live_of hlp31 (z ▸ hldu)
        have kl : (E.keepW ns2).length = ns2.length := List.length_map _
        have nlw : ∀ u ∈ E.writes, noL u.2 = true := fun u hu => blockB_nol (okP.wv u hu).2.2
        repeat walk_at "s"
        refine forL (.of hlk32) (fun i σ H' => ∃ o12 o19 o20 ws, σ = [some (.ref a), some (.int cell), some (.ref p), some (.int n), some (.ref d), o5, some (.int mu), some (.ref e), some (.ref lk), some (.ref lh), some (.ref g), some (.ref ldu), o12, some (.str (seenD D).shown), some (.ref le), some (.ref ls), some (.ref lp), o17, o18, o19, o20, o21] ∧ But [ldu] H32 H' ∧ H' ldu = some (.lst ws) ∧ DnAll K [] H' ws (J.putAll ((E.keepW ns2).take i) E.safe))
          ⟨_, _, _, _, rfl, .refl, hldu32, vys31.same s32⟩ ?_ ?_ ?_
        · rintro i σ H' hi ⟨o12, o19, o20, ws, rfl, b33, _⟩
          exact .of (b33.at hlk32 (by simpa using hlkd))
        · rintro i x σ H33 hi ⟨o12, o19, o20, ws, rfl, b33, hldu33, vws⟩
          obtain ⟨ni, hni, rfl⟩ := map_getG hi
          have hnc := hch.hi ni (List.mem_of_getElem? hni)
          have hwi : E.writes[ni]? = some (E.writes[ni]) := List.getElem?_eq_getElem hnc
          have hki : (E.keepW ns2)[i]? = some (E.writes[ni]) := by
            unfold DM.keepW
            rw [List.getElem?_map, hni]
            show some (E.writes.getD ni (0, .none)) = _
            rw [List.getD_eq_getElem?_getD, hwi]; rfl
          have hum := List.getElem_mem hnc
          generalize E.writes[ni] = u at hwi hki hum
          have gw : (E.writes.map dWr)[ni]? = some (dWr u) := by rw [List.getElem?_map, hwi]; rfl
          obtain ⟨y, hy, hyd⟩ := vzs32.getD gw
          obtain ⟨q, v, rfl, hq, hv⟩ := wr_inv hyd
          obtain ⟨hb0, hb1, hbb⟩ := okP.wv u hum
          obtain ⟨bn, hbn⟩ := Int.eq_ofNat_of_zero_le hb0
          have stp : J.putAll ((E.keepW ns2).take (i + 1)) E.safe = (J.putAll ((E.keepW ns2).take i) E.safe).set u.1.toNat u.2 := foldl_takeG hki
          have wl : ws.length = n := by rw [vws.length, putAll_length, okP.sl]
          have hq33 := b33.sqT hq
          have hlp33 := b33.at hlp32 (by simpa using hlpd)
          repeat walk_at "s"
          refine r_ixL (.of hlp33) (atI_nat hy) ?_
          repeat walk_at "s"
          rw [hbn]
          refine s_lst hldu33 (ixN_nat (by omega)) (fun H34 b34 hldu34 => ?_)
          refine ⟨_, _, _, _, rfl, b33.trans b34, hldu34, ?_⟩
          rw [stp, hbn, Int.toNat_natCast]
          have nls : noLs (J.putAll ((E.keepW ns2).take i) E.safe) = true := noLs_all.mpr fun z hz => by
            rcases putAll_mem hz with hz | ⟨q, hq, rfl⟩
            · exact blockB_nol (okP.sv z hz)
            · obtain ⟨j, hj⟩ := List.mem_iff_getElem?.mp (List.mem_of_mem_take hq)
              unfold DM.keepW at hj
              rw [List.getElem?_map] at hj
              obtain ⟨nj, hnj, rfl⟩ := Option.map_eq_some_iff.mp hj
              rw [List.getD_eq_getElem?_getD, List.getElem?_eq_getElem (hch.hi nj (List.mem_of_getElem? hnj))]
              exact nlw _ (List.getElem_mem _)
          exact DnAll.set bn (vws.nlb nls b34) (hv.nlb (nlw u hum) (b33.trans b34))
        · rintro σ H33 ⟨o12, o19, o20, ws, rfl, b33, hldu33, vws⟩
          rw [List.length_map, ← kl, List.take_length, hvals] at vws
          have b3133 : But [] H31 H33 := bt_but (But.of_same s32) b33 (bc_fr hldu bc_nil)
          have s3133 : Same H31 H33 := b3133.same
          have hD33 := hD31.same s3133
          have hE33 := hE31.same s3133
          have hG33 := hG31.same s3133
          have hp33 := hp31.same s3133
          have hle33 := s3133 _ _ hle31
          have ve33 := ve31.same s3133
          have hls33 := s3133 _ _ hls31
          have vys33 := vys31.same s3133
          have hlp33 := s3133 _ _ hlp31
          have vzs33 := vzs31.same s3133
          have hlk33 := s3133 _ _ hlk31
          have hlh33 := s3133 _ _ hlh31
          have s433 : Same H4 H33 := fun b o e => s3133 b o (s431 b o e)
          have nldp : ldu ≠ p := fun z => hp31.live (z ▸ hldu)
          have nldg : ldu ∉ fg := fun z => hG31.live ldu z hldu
          have nlde : ldu ∉ fe := fun z => hE31.live ldu z hldu
          have nldd : ldu ∉ fd := fun z => hD31.live ldu z hldu
          clear s32 b33 b3133 s3133 s431 hD31 hE31 hG31 hp31 hle31 ve31 hls31 vys31 hlp31 vzs31 hlk31 hlh31 hldu32 hlk32 hlp32 vzs32
          have dk : Dn K [] H33 (.ref lk) (.list ((ns2.map fun i : Nat => (i : Int)).map .int)) := .lst (xs := (ns2.map fun i : Nat => (i : Int)).map V.int) (by rw [List.map_map]; exact hlk33) (by simp) DnAll.ints
          have dh : Dn K [] H33 (.ref lh) (.list ((ns2.map fun i : Nat => (i : Int)).map .int)) := .lst (xs := (ns2.map fun i : Nat => (i : Int)).map V.int) (by rw [List.map_map]; exact hlh33) (by simp) DnAll.ints
          repeat walk_at "s"
          refine r_neSame dh dk (Sh.ints (k := 0)) (by decide) ?_
          repeat walk_at "s"
          refine r_iteF rfl ?_
          have voG : VOk ⟨vals, vals, [], []⟩ := ⟨fun v hv => by
            rw [← hvals] at hv
            rcases putAll_mem hv with h | ⟨q, hq, rfl⟩
            · exact vE.s v h
            · exact vE.w q (keepW_mem hch hq), fun u hu => by simp at hu, fun u hu => by simp at hu⟩
          have okG := hG33.ok
          have vlen : vals.length = n := okG.sl
          have nlv : noLs vals = true := okG.nl2
          clear dk dh
          repeat walk_at "s"
          refine ⟨g, fg, n, 0, _, rfl, hG33, voG, by decide, fun H34 s34 => ?_⟩
          repeat walk_at "s"
          refine r_newL (sz (Nat.le_of_ble_eq_true rfl)) (fun r1 H35 hr1 s35 hr15 => ?_)
          repeat walk_at "s"
          refine r_newL (sz (Nat.le_of_ble_eq_true rfl)) (fun r2 H36 hr2 s36 hr26 => ?_)
          repeat walk_at "s"
          refine r_newL (sz (Nat.le_of_ble_eq_true rfl)) (fun r3 H37 hr3 s37 hr37 => ?_)
          have s3337 : Same H33 H37 := fun b o e => s37 b o (s36 b o (s35 b o (s34 b o e)))
          have dg : Dn K [] H37 (.ref r3) (seenD ⟨vals, vals, [], []⟩) :=
            .lst hr37 (by simp) (.cons (.lst (s3337 _ _ hldu33) (by simp) (vws.same s3337)) (.cons (.lst (s37 _ _ (s36 _ _ hr15)) (by simp) .nil) (.one (.lst (s37 _ _ hr26) (by simp) .nil))))
          repeat walk_at "s"
          refine r_reprOk dg (okSeen okG voG (by decide)) (by decide) (by decide) ?_
          repeat walk_at "s"
          refine r_iteF (by simp) ?_
          have hG37 := hG33.same s3337
          obtain ⟨_, dx37, _, _, _, _, _, _, _, _, _, _, h037, _⟩ := id hG37
          have hldu37 := s3337 _ _ hldu33
          have vws37 := vws.same s3337
          repeat walk_at "s"
          refine r_lcR ?_
          repeat walk_at "s"
          refine lcR ⟨by omega, by omega⟩ (fun lr H38 hlr s38 hlr38 => ?_)
          have h038 := s38 _ _ h037
          have nrg : lr ∉ fg := fun z => hG37.live lr z hlr
          have nrd : ldu ≠ lr := fun z => live_of hldu37 (z ▸ hlr)
          refine ⟨fun i H' => ∃ us, But [lr] H38 H' ∧ H' lr = some (.lst us) ∧ DnAll K [] H' us (vals.take i), ⟨[], .refl, hlr38, .nil⟩, ?_, ?_⟩
          · rintro i H39 hi ⟨us, b39, hlr39, vus⟩
            have hG39 := (hG37.same s38).but b39 (fun x hx z => nrg ((List.mem_singleton.mp z) ▸ hx))
            obtain ⟨_, dx39, _, _, _, _, _, _, _, _, _, _, h039, _⟩ := id hG39
            have hin : i < vals.length := by omega
            have usl : us.length ≤ 128 := by
              rw [vus.length, List.length_take]
              omega
            repeat walk_at "s"
            refine ⟨rfl, ?_⟩
            refine r_yes ?_
            refine r_iteT rfl ?_
            repeat walk_at "s"
            refine r_methAt h039 (by with_unfolding_all rfl) ?_
            repeat walk_at "s"
            refine ⟨g, fg, n, 0, _, i, rfl, hG39, by omega, by omega, fun v hv => ?_⟩
            refine ⟨_, hlr39, szl (by omega), ?_⟩
            obtain ⟨H40, e40, b40, hlr40⟩ := upd_ex (o' := .lst (us ++ [v])) hlr39
            rw [e40]
            refine ⟨_, b39.trans b40, hlr40, ?_⟩
            have et : vals.take (i + 1) = vals.take i ++ [vals[i]] := by rw [List.take_add_one, List.getElem?_eq_getElem hin]; rfl
            have er : (DM.read ⟨vals, vals, [], []⟩ (i : Int)) = vals[i] := by
              show vals.getD (i : Int).toNat .none = _
              rw [Int.toNat_natCast, List.getD_eq_getElem?_getD, List.getElem?_eq_getElem hin]; rfl
            rw [er] at hv
            rw [et]
            exact (vus.nlb (noLs_all.mpr fun z hz => noLs_all.mp nlv z (List.mem_of_mem_take hz)) b40).snoc (hv.nlb (noLs_all.mp nlv _ (List.getElem_mem _)) b40)
          rintro H39 ⟨us, b39, hlr39, vus⟩
          have en : ((n : Nat) : Int).toNat = vals.length := by rw [Int.toNat_natCast, vlen]
          rw [en, List.take_length] at vus
          have s3739 : Same H37 H39 := (bt_but (But.of_same s38) b39 (bc_fr hlr bc_nil) : But [] H37 H39).same
          have s3339 : Same H33 H39 := fun b o e => s3739 b o (s3337 b o e)
          have hldu39 := s3739 _ _ hldu37
          have vws39 := vws37.same s3739
          have dr : Dn K [] H39 (.ref lr) (.list vals) := .lst hlr39 (by simp) vus
          have dd : Dn K [] H39 (.ref ldu) (.list vals) := .lst hldu39 (by simp) vws39
          have shv : Sh 10 (.list vals) := Sh.list fun v hv => blk_sh (okG.sv v hv)
          repeat walk_at "s"
          refine r_neSame dr dd shv (by decide) ?_
          repeat walk_at "s"
          refine r_iteF rfl ?_
          have hD39 := hD33.same s3339
          have hE39 := hE33.same s3339
          have hG39 := hG33.same s3339
          have hp39 := hp33.same s3339
          have hle39 := s3339 _ _ hle33
          have ve39 := ve33.same s3339
          have hls39 := s3339 _ _ hls33
          have vys39 := vys33.same s3339
          have hlp39 := s3339 _ _ hlp33
          have vzs39 := vzs33.same s3339
          have hlk39 := s3339 _ _ hlk33
          have s439 : Same H4 H39 := fun b o e => s3339 b o (s433 b o e)
          clear dg dr dd s34 s35 s36 s37 s38 s3337 s3739 s3339 s433 b39 hG37 hldu37 vws37 hlr39 vus hD33 hE33 hG33 hp33 hle33 ve33 hls33 vys33 hlp33 vzs33 hlk33 hlh33 hldu33 vws h037 h038 hr15 hr26 hr37 hlr38
          repeat walk_at "s"
          rw [zl]
          have hEl : E.writes.length ≤ 60 := by
            have := okP.wl
            have := okP.dl
            rw [List.length_take] at *
            omega
          refine ⟨p, lk, _, E.writes.length, ns2, rfl, hp39, by omega, hlk39, nlkp, hch, by omega, fun r x at_ H40 b40 hp40 hr40 hbad hat => ?_⟩
          have hD40 := hD39.but b40 (fun x hx z => npf ((List.mem_singleton.mp z) ▸ hx))
          have hE40 := hE39.but b40 (fun x hx z => npe ((List.mem_singleton.mp z) ▸ hx))
          have hG40 := hG39.but b40 (fun x hx z => npg ((List.mem_singleton.mp z) ▸ hx))
          have hle40 := b40.at hle39 (by simpa using nlep)
          have ve40 : DnAll K [] H40 xe (D.deeds.map dEv) := ve39.nlb ok.nl4 b40
          have hls40 := b40.at hls39 (by simpa using nlsp2)
          have vys40 : DnAll K [] H40 ys E.safe := vys39.nlb okP.nl2 b40
          have hlp40 := b40.at hlp39 (by simpa using nlpp)
          have vzs40 : DnAll K [] H40 zs (E.writes.map dWr) := vzs39.nlb okP.nl3 b40
          have hldu40 := b40.at hldu39 (by simpa using nldp)
          have vws40 : DnAll K [] H40 ws vals := vws39.nlb nlv b40
          have s440 : Same H4 H40 := (bt_frs (But.of_same s439) b40 Fp : But [] H4 H40).same
          clear b40 s439 hD39 hE39 hG39 hp39 hle39 ve39 hls39 vys39 hlp39 vzs39 hlk39 hldu39 vws39
          repeat walk_at "s"
          refine ⟨e, fe, n, mu, E, x, [p], hE40, .inr ⟨at_, rfl, hbad, fun t7 H41 s41 ht7 => ?_⟩⟩
          repeat walk_at "s"
          refine r_newT (sz (Nat.le_of_ble_eq_true rfl)) (fun t8 H42 ht8 s42 ht82 => ?_)
          obtain ⟨ad, had, hash⟩ : ∃ ad, Dn K [] H42 at_ ad ∧ Sh 0 ad := by
            rcases hat with rfl | ⟨j, rfl, _⟩
            · exact ⟨_, .non, .non⟩
            · exact ⟨_, .int _, .int⟩
          have dc1 : Dn K [] H42 (.ref t7) (.tuple [.str "choice", ad, .int 1]) := .tup ((But.of_same (S := []) s42).sqT ht7) (.cons (.str _) (.cons had (.one (.int _))))
          have dc2 : Dn K [] H42 (.ref t8) (.tuple [.str "choice", ad, .int 1]) := .tup (.of ht82) (.cons (.str _) (.cons had (.one (.int _))))
          have shc : Sh 1 (.tuple [.str "choice", ad, .int 1]) := Sh.tup fun z hz => by
            simp only [List.mem_cons, List.not_mem_nil, or_false] at hz
            rcases hz with rfl | rfl | rfl
            · exact .str (by decide +kernel)
            · exact hash
            · exact .int
          refine r_neSame dc1 dc2 shc (by decide) ?_
          repeat walk_at "s"
          refine r_iteF rfl ?_
          have s4042 : Same H40 H42 := fun b o e => s42 b o (s41 b o e)
          clear dc1 dc2 had
          repeat walk_at "s"
          have hD42 := hD40.same s4042
          refine ⟨d, fd, n, tm, D, by rw [xel], hD42, by omega, fun H43 s43 => ?_⟩
          repeat walk_at "s"
          refine r_iteF rfl ?_
          have s4043 : Same H40 H43 := fun b o e => s43 b o (s4042 b o e)
          have hle43 := s4043 _ _ hle40
          repeat walk_at "s"
          refine r_slL (.of hle43) (fun q4 H44 hq4 s44 hq44 => ?_)
          rw [cut_to] at hq44
          have s4044 : Same H40 H44 := fun b o e => s44 b o (s4043 b o e)
          have hD44 := hD40.same s4044
          have hE44 := hE40.same s4044
          have hG44 := hG40.same s4044
          have hle44 := s4044 _ _ hle40
          have ve44 := ve40.same s4044
          have hls44 := s4044 _ _ hls40
          have vys44 := vys40.same s4044
          have hlp44 := s4044 _ _ hlp40
          have vzs44 := vzs40.same s4044
          have hldu44 := s4044 _ _ hldu40
          have vws44 := vws40.same s4044
          have s444 : Same H4 H44 := fun b o e => s4044 b o (s440 b o e)
          have nq4 : q4 ∉ fe := fun z => (hE40.same s4043).live q4 z hq4
          clear s41 s42 s43 s44 s4042 s4043 s4044 s440 hD40 hE40 hG40 hle40 ve40 hls40 vys40 hlp40 vzs40 hldu40 vws40 hD42 hle43 hbad ht7 ht82
          have vq4 : DnAll K [] H44 (xe.take mu) (E.deeds.map dEv) := by rw [eD, List.map_take]; exact ve44.take mu
          repeat walk_at "s"
          refine ⟨e, q4, fe, n, mu, E, xe.take mu, rfl, hE44, by omega, hq44, nq4, vq4, fun H45 b45 => ?_⟩
          have hD45 := hD44.but b45 dde
          have hG45 := hG44.but b45 (fun x hx hy => deg x hy hx)
          have hle45 := b45.at hle44 nlee
          have ve45 : DnAll K [] H45 xe (D.deeds.map dEv) := ve44.nlb ok.nl4 b45
          have hls45 := b45.at hls44 nlse
          have vys45 : DnAll K [] H45 ys E.safe := vys44.nlb okP.nl2 b45
          have hlp45 := b45.at hlp44 nlpe
          have vzs45 : DnAll K [] H45 zs (E.writes.map dWr) := vzs44.nlb okP.nl3 b45
          have hldu45 := b45.at hldu44 nlde
          have vws45 : DnAll K [] H45 ws vals := vws44.nlb nlv b45
          have s445 : Same H4 H45 := (bt_frs (But.of_same s444) b45 Fe : But [] H4 H45).same
          clear b45 s444 hD44 hE44 hG44 hle44 ve44 hls44 vys44 hlp44 vzs44 hldu44 vws44 vq4 hq44
          repeat walk_at "s"
          refine r_iteF rfl ?_
          repeat walk_at "s"
          refine ⟨g, ldu, fg, n, vals, ws, rfl, hG45, voG.s, hldu45, nldg, vws45, fun H46 b46 => ?_⟩
          have hD46 := hD45.but b46 ddg
          have hle46 := b46.at hle45 nleg
          have ve46 : DnAll K [] H46 xe (D.deeds.map dEv) := ve45.nlb ok.nl4 b46
          have hls46 := b46.at hls45 nlsg
          have vys46 : DnAll K [] H46 ys E.safe := vys45.nlb okP.nl2 b46
          have hlp46 := b46.at hlp45 nlpg
          have vzs46 : DnAll K [] H46 zs (E.writes.map dWr) := vzs45.nlb okP.nl3 b46
          have s446 : Same H4 H46 := (bt_frs (But.of_same s445) b46 Fg : But [] H4 H46).same
          clear b46 s445 hD45 hG45 hle45 ve45 hls45 vys45 hlp45 vzs45 hldu45 vws45
          repeat walk_at "s"
          refine r_iteF rfl ?_
          repeat walk_at "s"
          refine ⟨d, fd, n, tm, D, rfl, hD46, vo, by omega, fun H47 s47 => ?_⟩
          obtain ⟨_, dx47, _, _, _, _, _, _, _, _, _, _, h047, _⟩ := id (hD46.same s47)
          repeat walk_at "s"
          refine r_iteF (by simp) ?_
          repeat walk_at "s"
          refine r_methAt h047 (by with_unfolding_all rfl) ?_
          repeat walk_at "s"
          refine ⟨d, fd, n, tm, D, mu, rfl, hD46.same s47, hmu, by omega, fun e2 es2 H48 hf2 s48 hE2 => ?_⟩
          rw [hED] at hE2
          repeat walk_at "s"
          refine ⟨e2, e2 :: es2, n, mu, E, rfl, hE2, vE, by omega, fun H49 s49 => ?_⟩
          have s4649 : Same H46 H49 := fun b o e => s49 b o (s48 b o (s47 b o e))
          repeat walk_at "s"
          refine r_slL (.of (s4649 _ _ hle46)) (fun q5 H50 hq5 s50 hq50 => ?_)
          rw [cut_to] at hq50
          repeat walk_at "s"
          refine r_newL (sz (Nat.le_of_ble_eq_true rfl)) (fun q6 H51 hq6 s51 hq61 => ?_)
          have s4651 : Same H46 H51 := fun b o e => s51 b o (s50 b o (s4649 b o e))
          have hokE2 := okSeen okP vE (by rw [List.length_take]; omega)
          have dvE2 : DnAll K [] H51 (xe.take mu) (E.deeds.map dEv) := by rw [eD, List.map_take]; exact (ve46.same s4651).take mu
          have dsE2 : Dn K [] H51 (.ref q6) (seenD E) := .lst hq61 (by simp) (.cons (.lst (s4651 _ _ hls46) (by simp) (vys46.same s4651)) (.cons (.lst (s4651 _ _ hlp46) (by simp) (vzs46.same s4651)) (.one (.lst (s51 _ _ hq50) (by simp) dvE2))))
          repeat walk_at "s"
          refine r_reprOk dsE2 hokE2 (by decide) (by decide) ?_
          repeat walk_at "s"
          refine r_iteF (by simp) ?_
          exact ⟨_, _, _, _, _, _, _, _, _, _, _, _, _, _, _, _, _, _, _, _, _, rfl, s4651 _ _ (s446 _ _ hL4)⟩
    · rintro σ H4 ⟨o1, o2, o3, o4, o5, o6, o7, o8, o9, o10, o11, o12, o13, o14, o15, o16, o17, o18, o19, o20, o21, rfl, hL4⟩
      repeat walk_at "s"
      exact k _
end
end L02

set_option Elab.async false
set_option linter.all false
set_option maxRecDepth 100000
set_option maxHeartbeats 4000000
open PySem L2 PyProof.Rows J
namespace L02
/-- is an error of the class at D what «except S» names? -/
theorem exm_cl {K : PySem.W.Frag} {D S : Addr} {b : Bool} (h1 : PySem.W.subIn K (.ref S) (.type "BaseException") = some true) (h2 : PySem.W.isClsIn K S = true) (h3 : PySem.W.typeIn K (.ref S) = some (.type "type")) (h4 : PySem.W.subIn K (.ref D) (.ref S) = some b) :
    PySem.W.exmOne K (.ref D) (.ref S) = some b := by
  have e1 : (PySem.W.subIn K (.ref S) (.type "BaseException") == some true) = true := by rw [h1] <;> rfl
  have e2 : ((PySem.W.clsIn K S).isSome && PySem.W.typeIn K (.ref S) == some (.type "type")) = true := by
    have h2' : (PySem.W.clsIn K S).isSome = true := h2
    rw [h2', h3] <;> rfl
  show (if (PySem.W.subIn K (.ref S) (.type "BaseException") == some true) = true then (if ((PySem.W.clsIn K S).isSome && PySem.W.typeIn K (.ref S) == some (.type "type")) = true then PySem.W.subIn K (.ref D) (.ref S) else none) else none) = some b
  rw [if_pos e1, if_pos e2]
  exact h4
theorem exm_self {K : PySem.W.Frag} {S : Addr} (h1 : PySem.W.subIn K (.ref S) (.type "BaseException") = some true) (h2 : PySem.W.isClsIn K S = true) (h3 : PySem.W.typeIn K (.ref S) = some (.type "type")) (h4 : PySem.W.subIn K (.ref S) (.ref S) = some true) :
    PySem.W.exmOne K (.ref S) (.ref S) = some true := exm_cl h1 h2 h3 h4
theorem kit_clF {K : PySem.W.Frag} {D C : Addr} (hi : PySem.W.isClsIn K C = true) (ht : PySem.W.typeIn K (.ref C) = some (.type "type")) (hs : PySem.W.subIn K (.ref D) (.ref D) = some true) (h : PySem.W.subIn K (.ref D) (.ref C) = some false) : PySem.W.kitOne K (.ref D) (.ref C) = some false :=
  kit_cl hi ht h (.inr fun e => by
    subst e
    rw [hs] at h
    cases h)
end L02
open PySem L2 PyProof.Rows J
set_option maxHeartbeats 4000000
namespace L02
theorem all_mk {P : Program} {w : World} {K : PySem.W.Frag} {h : Heap} {mg : Str → Option Value} {fa : Addr} {CDisk f0 f1 f2 T2 f3 T3 f4 f5 f6 f7 f8 f9 f10 f11 f12 f13 f14 f15 f16 f17 f18 f19 f20 f21 f22 f23 f24 f25 f26 f27 f28 f29 f30 f31 f32 : Addr} {od0 an0 od1 an1 od2 an2 otd2 od3 an3 otd3 od4 an4 od5 an5 od6 an6 od7 an7 od8 an8 od9 an9 od10 an10 od11 an11 od12 an12 od13 an13 od14 an14 od15 an15 od16 an16 od17 an17 od18 an18 od19 an19 od20 an20 od21 an21 od22 an22 od23 an23 od24 an24 od25 an25 od26 an26 od27 an27 od28 an28 od29 an29 od30 an30 od31 an31 od32 an32 : Option Addr} {sl0 sl1 sl2 tsl2 sl3 tsl3 sl4 sl5 sl6 sl7 sl8 sl9 sl10 sl11 sl12 sl13 sl14 sl15 sl16 sl17 sl18 sl19 sl20 sl21 sl22 sl23 sl24 sl25 sl26 sl27 sl28 sl29 sl30 sl31 sl32 : Array (Option Value)} {oc0 kV0 dc0 pm0 cd0 ct0 oc1 kV1 dc1 pm1 cd1 ct1 oc2 kV2 dc2 pm2 cd2 ct2 toc2 oc3 kV3 dc3 pm3 cd3 ct3 toc3 oc4 kV4 dc4 pm4 cd4 ct4 oc5 kV5 dc5 pm5 cd5 ct5 oc6 kV6 dc6 pm6 cd6 ct6 oc7 kV7 dc7 pm7 cd7 ct7 oc8 kV8 dc8 pm8 cd8 ct8 oc9 kV9 dc9 pm9 cd9 ct9 oc10 kV10 dc10 pm10 cd10 ct10 oc11 kV11 dc11 pm11 cd11 ct11 oc12 kV12 dc12 pm12 cd12 ct12 oc13 kV13 dc13 pm13 cd13 ct13 oc14 kV14 dc14 pm14 cd14 ct14 oc15 kV15 dc15 pm15 cd15 ct15 oc16 kV16 dc16 pm16 cd16 ct16 oc17 kV17 dc17 pm17 cd17 ct17 oc18 kV18 dc18 pm18 cd18 ct18 oc19 kV19 dc19 pm19 cd19 ct19 oc20 kV20 dc20 pm20 cd20 ct20 oc21 kV21 dc21 pm21 cd21 ct21 oc22 kV22 dc22 pm22 cd22 ct22 oc23 kV23 dc23 pm23 cd23 ct23 oc24 kV24 dc24 pm24 cd24 ct24 oc25 kV25 dc25 pm25 cd25 ct25 oc26 kV26 dc26 pm26 cd26 ct26 oc27 kV27 dc27 pm27 cd27 ct27 oc28 kV28 dc28 pm28 cd28 ct28 oc29 kV29 dc29 pm29 cd29 ct29 oc30 kV30 dc30 pm30 cd30 ct30 oc31 kV31 dc31 pm31 cd31 ct31 oc32 kV32 dc32 pm32 cd32 ct32 : Value} {tn2 tn3 : Nat} {tk2_0 tk3_0 tk_MOST_BLOCKS tk_MOST_NESTED : Tok} {CBadCount : Addr} {CBadChoice : Addr} {CLogError : Addr} {CBadBlock : Addr} {CBadLayout : Addr} {CBadPath : Addr} {CBadRule : Addr} {CBadStep : Addr} {CBadValue : Addr} {CHasEntry : Addr} {CNoEntry : Addr} {CNoRoom : Addr} {CNoSpace : Addr} {CNotEmpty : Addr} {CTooMany : Addr} {nm_BadCount q_BadCount : Str} {N_BadCount : Addr} {bs_BadCount : List Value} {sn_BadCount : List Str} {sub_BadCount : List Value} {ab_BadCount : Bool} {col_BadCount : Option Bool} {dd_BadCount : Option Addr} {m0_BadCount m1_BadCount m2_BadCount m3_BadCount m5_BadCount : Option Value} {nm_BadChoice q_BadChoice : Str} {N_BadChoice : Addr} {bs_BadChoice : List Value} {sn_BadChoice : List Str} {sub_BadChoice : List Value} {ab_BadChoice : Bool} {col_BadChoice : Option Bool} {dd_BadChoice : Option Addr} {m0_BadChoice m1_BadChoice m2_BadChoice m3_BadChoice m5_BadChoice : Option Value} (X : K.In h) (G : h.Ns mainGlobals mg) (hfa : mg "law" = some (.ref fa))
    (aC_TooMany : PySem.W.nsIn K mainGlobals "TooMany" = some (some (.ref CTooMany)))
    (aC_NotEmpty : PySem.W.nsIn K mainGlobals "NotEmpty" = some (some (.ref CNotEmpty)))
    (aC_NoSpace : PySem.W.nsIn K mainGlobals "NoSpace" = some (some (.ref CNoSpace)))
    (aC_NoRoom : PySem.W.nsIn K mainGlobals "NoRoom" = some (some (.ref CNoRoom)))
    (aC_NoEntry : PySem.W.nsIn K mainGlobals "NoEntry" = some (some (.ref CNoEntry)))
    (aC_HasEntry : PySem.W.nsIn K mainGlobals "HasEntry" = some (some (.ref CHasEntry)))
    (aC_BadValue : PySem.W.nsIn K mainGlobals "BadValue" = some (some (.ref CBadValue)))
    (aC_BadStep : PySem.W.nsIn K mainGlobals "BadStep" = some (some (.ref CBadStep)))
    (aC_BadRule : PySem.W.nsIn K mainGlobals "BadRule" = some (some (.ref CBadRule)))
    (aC_BadPath : PySem.W.nsIn K mainGlobals "BadPath" = some (some (.ref CBadPath)))
    (aC_BadLayout : PySem.W.nsIn K mainGlobals "BadLayout" = some (some (.ref CBadLayout)))
    (aC_BadBlock : PySem.W.nsIn K mainGlobals "BadBlock" = some (some (.ref CBadBlock)))
    (aC_LogError : PySem.W.nsIn K mainGlobals "LogError" = some (some (.ref CLogError)))
    (aC_BadChoice : PySem.W.nsIn K mainGlobals "BadChoice" = some (some (.ref CBadChoice)))
    (aC_BadCount : PySem.W.nsIn K mainGlobals "BadCount" = some (some (.ref CBadCount)))
    (aC_Disk : PySem.W.nsIn K mainGlobals "Disk" = some (some (.ref CDisk)))
    (pg_Disk : PySem.W.plainGet K CDisk Str.empty = true)
    (hd_Disk : PySem.W.hasDictIn K CDisk = true)
    (po_Disk : PySem.W.plainOver K CDisk = true)
    (sa_Disk : PySem.W.findIn K (.ref CDisk) "__setattr__" = some (some (.builtin "object.__setattr__")))
    (mk_Disk : PySem.W.makesIn K CDisk = true)
    (kc_Disk : PySem.W.keepIn K (.ref CDisk) = true)
    (no_Disk_first : PySem.W.findIn K (.ref CDisk) "first" = some none)
    (no_Disk_safe : PySem.W.findIn K (.ref CDisk) "safe" = some none)
    (no_Disk_writes : PySem.W.findIn K (.ref CDisk) "writes" = some none)
    (no_Disk_deeds : PySem.W.findIn K (.ref CDisk) "deeds" = some none)
    (a0 : PySem.W.nsIn K mainGlobals "is_integer" = some (some (.ref f0)))
    (l0 : K.lookup f0 = some ⟨oc0, od0, .func (PySem.W.fnOf "is_integer" "is_integer" (defArgs s_is_integer) (defBody s_is_integer) (defScope s_is_integer) .none kV0 dc0 pm0 an0 cd0 ct0), sl0⟩)
    (c0 : PySem.W.codeIn K cd0 "is_integer" = true)
    (k0 : PySem.W.keepIn K (.ref f0) = true)
    (a1 : PySem.W.nsIn K mainGlobals "is_between" = some (some (.ref f1)))
    (l1 : K.lookup f1 = some ⟨oc1, od1, .func (PySem.W.fnOf "is_between" "is_between" (defArgs s_is_between) (defBody s_is_between) (defScope s_is_between) .none kV1 dc1 pm1 an1 cd1 ct1), sl1⟩)
    (c1 : PySem.W.codeIn K cd1 "is_between" = true)
    (k1 : PySem.W.keepIn K (.ref f1) = true)
    (a2 : PySem.W.nsIn K mainGlobals "is_value" = some (some (.ref f2)))
    (l2 : K.lookup f2 = some ⟨oc2, od2, .func (PySem.W.fnOf "is_value" "is_value" (defArgs s_is_value) (defBody s_is_value) (defScope s_is_value) (.ref T2) kV2 dc2 pm2 an2 cd2 ct2), sl2⟩)
    (t2 : K.lookup T2 = some ⟨toc2, otd2, .seq #[.int 0 tk2_0] tn2, tsl2⟩)
    (c2 : PySem.W.codeIn K cd2 "is_value" = true)
    (k2 : PySem.W.keepIn K (.ref f2) = true)
    (a3 : PySem.W.findIn K (.ref CLogError) "__init__" = some (some (.ref f3)))
    (i3 : PySem.W.isFn K (.ref f3) = true)
    (l3 : K.lookup f3 = some ⟨oc3, od3, .func (PySem.W.fnOf "__init__" "LogError.__init__" (defArgs s_LogError_init) (defBody s_LogError_init) (defScope s_LogError_init) (.ref T3) kV3 dc3 pm3 an3 cd3 ct3), sl3⟩)
    (t3 : K.lookup T3 = some ⟨toc3, otd3, .seq #[.str "invalid" tk3_0] tn3, tsl3⟩)
    (c3 : PySem.W.codeIn K cd3 "LogError.__init__" = true)
    (k3 : PySem.W.keepIn K (.ref f3) = true)
    (a4 : PySem.W.findIn K (.ref CBadCount) "__init__" = some (some (.ref f4)))
    (i4 : PySem.W.isFn K (.ref f4) = true)
    (l4 : K.lookup f4 = some ⟨oc4, od4, .func (PySem.W.fnOf "__init__" "BadCount.__init__" (defArgs s_BadCount_init) (defBody s_BadCount_init) (defScope s_BadCount_init) .none kV4 dc4 pm4 an4 cd4 ct4), sl4⟩)
    (c4 : PySem.W.codeIn K cd4 "BadCount.__init__" = true)
    (k4 : PySem.W.keepIn K (.ref f4) = true)
    (a5 : PySem.W.findIn K (.ref CBadChoice) "__init__" = some (some (.ref f5)))
    (i5 : PySem.W.isFn K (.ref f5) = true)
    (l5 : K.lookup f5 = some ⟨oc5, od5, .func (PySem.W.fnOf "__init__" "BadChoice.__init__" (defArgs s_BadChoice_init) (defBody s_BadChoice_init) (defScope s_BadChoice_init) .none kV5 dc5 pm5 an5 cd5 ct5), sl5⟩)
    (c5 : PySem.W.codeIn K cd5 "BadChoice.__init__" = true)
    (k5 : PySem.W.keepIn K (.ref f5) = true)
    (a6 : PySem.W.findIn K (.ref CDisk) "__init__" = some (some (.ref f6)))
    (i6 : PySem.W.isFn K (.ref f6) = true)
    (l6 : K.lookup f6 = some ⟨oc6, od6, .func (PySem.W.fnOf "__init__" "Disk.__init__" (defArgs s_Disk_init) (defBody s_Disk_init) (defScope s_Disk_init) .none kV6 dc6 pm6 an6 cd6 ct6), sl6⟩)
    (c6 : PySem.W.codeIn K cd6 "Disk.__init__" = true)
    (k6 : PySem.W.keepIn K (.ref f6) = true)
    (a7 : PySem.W.findIn K (.ref CDisk) "check_block" = some (some (.ref f7)))
    (i7 : PySem.W.isFn K (.ref f7) = true)
    (l7 : K.lookup f7 = some ⟨oc7, od7, .func (PySem.W.fnOf "check_block" "Disk.check_block" (defArgs s_Disk_check_block) (defBody s_Disk_check_block) (defScope s_Disk_check_block) .none kV7 dc7 pm7 an7 cd7 ct7), sl7⟩)
    (c7 : PySem.W.codeIn K cd7 "Disk.check_block" = true)
    (k7 : PySem.W.keepIn K (.ref f7) = true)
    (a8 : PySem.W.findIn K (.ref CDisk) "read" = some (some (.ref f8)))
    (i8 : PySem.W.isFn K (.ref f8) = true)
    (l8 : K.lookup f8 = some ⟨oc8, od8, .func (PySem.W.fnOf "read" "Disk.read" (defArgs s_Disk_read) (defBody s_Disk_read) (defScope s_Disk_read) .none kV8 dc8 pm8 an8 cd8 ct8), sl8⟩)
    (c8 : PySem.W.codeIn K cd8 "Disk.read" = true)
    (k8 : PySem.W.keepIn K (.ref f8) = true)
    (a9 : PySem.W.findIn K (.ref CDisk) "write" = some (some (.ref f9)))
    (i9 : PySem.W.isFn K (.ref f9) = true)
    (l9 : K.lookup f9 = some ⟨oc9, od9, .func (PySem.W.fnOf "write" "Disk.write" (defArgs s_Disk_write) (defBody s_Disk_write) (defScope s_Disk_write) .none kV9 dc9 pm9 an9 cd9 ct9), sl9⟩)
    (c9 : PySem.W.codeIn K cd9 "Disk.write" = true)
    (k9 : PySem.W.keepIn K (.ref f9) = true)
    (a10 : PySem.W.findIn K (.ref CDisk) "flush" = some (some (.ref f10)))
    (i10 : PySem.W.isFn K (.ref f10) = true)
    (l10 : K.lookup f10 = some ⟨oc10, od10, .func (PySem.W.fnOf "flush" "Disk.flush" (defArgs s_Disk_flush) (defBody s_Disk_flush) (defScope s_Disk_flush) .none kV10 dc10 pm10 an10 cd10 ct10), sl10⟩)
    (c10 : PySem.W.codeIn K cd10 "Disk.flush" = true)
    (k10 : PySem.W.keepIn K (.ref f10) = true)
    (a11 : PySem.W.findIn K (.ref CDisk) "durable" = some (some (.ref f11)))
    (i11 : PySem.W.isFn K (.ref f11) = true)
    (l11 : K.lookup f11 = some ⟨oc11, od11, .func (PySem.W.fnOf "durable" "Disk.durable" (defArgs s_Disk_durable) (defBody s_Disk_durable) (defScope s_Disk_durable) .none kV11 dc11 pm11 an11 cd11 ct11), sl11⟩)
    (c11 : PySem.W.codeIn K cd11 "Disk.durable" = true)
    (k11 : PySem.W.keepIn K (.ref f11) = true)
    (a12 : PySem.W.findIn K (.ref CDisk) "events" = some (some (.ref f12)))
    (i12 : PySem.W.isFn K (.ref f12) = true)
    (l12 : K.lookup f12 = some ⟨oc12, od12, .func (PySem.W.fnOf "events" "Disk.events" (defArgs s_Disk_events) (defBody s_Disk_events) (defScope s_Disk_events) .none kV12 dc12 pm12 an12 cd12 ct12), sl12⟩)
    (c12 : PySem.W.codeIn K cd12 "Disk.events" = true)
    (k12 : PySem.W.keepIn K (.ref f12) = true)
    (a13 : PySem.W.findIn K (.ref CDisk) "pending" = some (some (.ref f13)))
    (i13 : PySem.W.isFn K (.ref f13) = true)
    (l13 : K.lookup f13 = some ⟨oc13, od13, .func (PySem.W.fnOf "pending" "Disk.pending" (defArgs s_Disk_pending) (defBody s_Disk_pending) (defScope s_Disk_pending) .none kV13 dc13 pm13 an13 cd13 ct13), sl13⟩)
    (c13 : PySem.W.codeIn K cd13 "Disk.pending" = true)
    (k13 : PySem.W.keepIn K (.ref f13) = true)
    (a14 : PySem.W.nsIn K mainGlobals "check_choice" = some (some (.ref f14)))
    (l14 : K.lookup f14 = some ⟨oc14, od14, .func (PySem.W.fnOf "check_choice" "check_choice" (defArgs s_check_choice) (defBody s_check_choice) (defScope s_check_choice) .none kV14 dc14 pm14 an14 cd14 ct14), sl14⟩)
    (c14 : PySem.W.codeIn K cd14 "check_choice" = true)
    (k14 : PySem.W.keepIn K (.ref f14) = true)
    (a15 : PySem.W.nsIn K mainGlobals "beginning_with" = some (some (.ref f15)))
    (l15 : K.lookup f15 = some ⟨oc15, od15, .func (PySem.W.fnOf "beginning_with" "beginning_with" (defArgs s_beginning_with) (defBody s_beginning_with) (defScope s_beginning_with) .none kV15 dc15 pm15 an15 cd15 ct15), sl15⟩)
    (c15 : PySem.W.codeIn K cd15 "beginning_with" = true)
    (k15 : PySem.W.keepIn K (.ref f15) = true)
    (a16 : PySem.W.findIn K (.ref CDisk) "crashed" = some (some (.ref f16)))
    (i16 : PySem.W.isFn K (.ref f16) = true)
    (l16 : K.lookup f16 = some ⟨oc16, od16, .func (PySem.W.fnOf "crashed" "Disk.crashed" (defArgs s_Disk_crashed) (defBody s_Disk_crashed) (defScope s_Disk_crashed) .none kV16 dc16 pm16 an16 cd16 ct16), sl16⟩)
    (c16 : PySem.W.codeIn K cd16 "Disk.crashed" = true)
    (k16 : PySem.W.keepIn K (.ref f16) = true)
    (a17 : PySem.W.findIn K (.ref CDisk) "after" = some (some (.ref f17)))
    (i17 : PySem.W.isFn K (.ref f17) = true)
    (l17 : K.lookup f17 = some ⟨oc17, od17, .func (PySem.W.fnOf "after" "Disk.after" (defArgs s_Disk_after) (defBody s_Disk_after) (defScope s_Disk_after) .none kV17 dc17 pm17 an17 cd17 ct17), sl17⟩)
    (c17 : PySem.W.codeIn K cd17 "Disk.after" = true)
    (k17 : PySem.W.keepIn K (.ref f17) = true)
    (a18 : PySem.W.nsIn K mainGlobals "_law_cell_at" = some (some (.ref f18)))
    (l18 : K.lookup f18 = some ⟨oc18, od18, .func (PySem.W.fnOf "_law_cell_at" "_law_cell_at" (defArgs s_law_cell_at) (defBody s_law_cell_at) (defScope s_law_cell_at) .none kV18 dc18 pm18 an18 cd18 ct18), sl18⟩)
    (c18 : PySem.W.codeIn K cd18 "_law_cell_at" = true)
    (k18 : PySem.W.keepIn K (.ref f18) = true)
    (a19 : PySem.W.nsIn K mainGlobals "_law_well" = some (some (.ref f19)))
    (l19 : K.lookup f19 = some ⟨oc19, od19, .func (PySem.W.fnOf "_law_well" "_law_well" (defArgs s_law_well) (defBody s_law_well) (defScope s_law_well) .none kV19 dc19 pm19 an19 cd19 ct19), sl19⟩)
    (c19 : PySem.W.codeIn K cd19 "_law_well" = true)
    (k19 : PySem.W.keepIn K (.ref f19) = true)
    (a20 : PySem.W.nsIn K mainGlobals "_law_draw" = some (some (.ref f20)))
    (l20 : K.lookup f20 = some ⟨oc20, od20, .func (PySem.W.fnOf "_law_draw" "_law_draw" (defArgs s_law_draw) (defBody s_law_draw) (defScope s_law_draw) .none kV20 dc20 pm20 an20 cd20 ct20), sl20⟩)
    (c20 : PySem.W.codeIn K cd20 "_law_draw" = true)
    (k20 : PySem.W.keepIn K (.ref f20) = true)
    (a21 : PySem.W.nsIn K mainGlobals "_law_one" = some (some (.ref f21)))
    (l21 : K.lookup f21 = some ⟨oc21, od21, .func (PySem.W.fnOf "_law_one" "_law_one" (defArgs s_law_one) (defBody s_law_one) (defScope s_law_one) .none kV21 dc21 pm21 an21 cd21 ct21), sl21⟩)
    (c21 : PySem.W.codeIn K cd21 "_law_one" = true)
    (k21 : PySem.W.keepIn K (.ref f21) = true)
    (a22 : PySem.W.nsIn K mainGlobals "_law_value" = some (some (.ref f22)))
    (l22 : K.lookup f22 = some ⟨oc22, od22, .func (PySem.W.fnOf "_law_value" "_law_value" (defArgs s_law_value) (defBody s_law_value) (defScope s_law_value) .none kV22 dc22 pm22 an22 cd22 ct22), sl22⟩)
    (c22 : PySem.W.codeIn K cd22 "_law_value" = true)
    (k22 : PySem.W.keepIn K (.ref f22) = true)
    (a23 : PySem.W.nsIn K mainGlobals "_law_classes_of" = some (some (.ref f23)))
    (l23 : K.lookup f23 = some ⟨oc23, od23, .func (PySem.W.fnOf "_law_classes_of" "_law_classes_of" (defArgs s_law_classes_of) (defBody s_law_classes_of) (defScope s_law_classes_of) .none kV23 dc23 pm23 an23 cd23 ct23), sl23⟩)
    (c23 : PySem.W.codeIn K cd23 "_law_classes_of" = true)
    (k23 : PySem.W.keepIn K (.ref f23) = true)
    (a24 : PySem.W.nsIn K mainGlobals "_law_raised" = some (some (.ref f24)))
    (l24 : K.lookup f24 = some ⟨oc24, od24, .func (PySem.W.fnOf "_law_raised" "_law_raised" (defArgs s_law_raised) (defBody s_law_raised) (defScope s_law_raised) .none kV24 dc24 pm24 an24 cd24 ct24), sl24⟩)
    (c24 : PySem.W.codeIn K cd24 "_law_raised" = true)
    (k24 : PySem.W.keepIn K (.ref f24) = true)
    (a25 : PySem.W.nsIn K mainGlobals "_law_seen" = some (some (.ref f25)))
    (l25 : K.lookup f25 = some ⟨oc25, od25, .func (PySem.W.fnOf "_law_seen" "_law_seen" (defArgs s_law_seen) (defBody s_law_seen) (defScope s_law_seen) .none kV25 dc25 pm25 an25 cd25 ct25), sl25⟩)
    (c25 : PySem.W.codeIn K cd25 "_law_seen" = true)
    (k25 : PySem.W.keepIn K (.ref f25) = true)
    (a26 : PySem.W.nsIn K mainGlobals "_law_kept" = some (some (.ref f26)))
    (l26 : K.lookup f26 = some ⟨oc26, od26, .func (PySem.W.fnOf "_law_kept" "_law_kept" (defArgs s_law_kept) (defBody s_law_kept) (defScope s_law_kept) .none kV26 dc26 pm26 an26 cd26 ct26), sl26⟩)
    (c26 : PySem.W.codeIn K cd26 "_law_kept" = true)
    (k26 : PySem.W.keepIn K (.ref f26) = true)
    (a27 : PySem.W.nsIn K mainGlobals "_law_bad_kept" = some (some (.ref f27)))
    (l27 : K.lookup f27 = some ⟨oc27, od27, .func (PySem.W.fnOf "_law_bad_kept" "_law_bad_kept" (defArgs s_law_bad_kept) (defBody s_law_bad_kept) (defScope s_law_bad_kept) .none kV27 dc27 pm27 an27 cd27 ct27), sl27⟩)
    (c27 : PySem.W.codeIn K cd27 "_law_bad_kept" = true)
    (k27 : PySem.W.keepIn K (.ref f27) = true)
    (a28 : PySem.W.nsIn K mainGlobals "_law_replayed" = some (some (.ref f28)))
    (l28 : K.lookup f28 = some ⟨oc28, od28, .func (PySem.W.fnOf "_law_replayed" "_law_replayed" (defArgs s_law_replayed) (defBody s_law_replayed) (defScope s_law_replayed) .none kV28 dc28 pm28 an28 cd28 ct28), sl28⟩)
    (c28 : PySem.W.codeIn K cd28 "_law_replayed" = true)
    (k28 : PySem.W.keepIn K (.ref f28) = true)
    (a29 : PySem.W.nsIn K mainGlobals "_law_odd_counts" = some (some (.ref f29)))
    (l29 : K.lookup f29 = some ⟨oc29, od29, .func (PySem.W.fnOf "_law_odd_counts" "_law_odd_counts" (defArgs s_law_odd_counts) (defBody s_law_odd_counts) (defScope s_law_odd_counts) .none kV29 dc29 pm29 an29 cd29 ct29), sl29⟩)
    (c29 : PySem.W.codeIn K cd29 "_law_odd_counts" = true)
    (k29 : PySem.W.keepIn K (.ref f29) = true)
    (a30 : PySem.W.nsIn K mainGlobals "_law_flushed" = some (some (.ref f30)))
    (l30 : K.lookup f30 = some ⟨oc30, od30, .func (PySem.W.fnOf "_law_flushed" "_law_flushed" (defArgs s_law_flushed) (defBody s_law_flushed) (defScope s_law_flushed) .none kV30 dc30 pm30 an30 cd30 ct30), sl30⟩)
    (c30 : PySem.W.codeIn K cd30 "_law_flushed" = true)
    (k30 : PySem.W.keepIn K (.ref f30) = true)
    (a31 : PySem.W.nsIn K mainGlobals "_law_goes_on" = some (some (.ref f31)))
    (l31 : K.lookup f31 = some ⟨oc31, od31, .func (PySem.W.fnOf "_law_goes_on" "_law_goes_on" (defArgs s_law_goes_on) (defBody s_law_goes_on) (defScope s_law_goes_on) .none kV31 dc31 pm31 an31 cd31 ct31), sl31⟩)
    (c31 : PySem.W.codeIn K cd31 "_law_goes_on" = true)
    (k31 : PySem.W.keepIn K (.ref f31) = true)
    (a32 : PySem.W.nsIn K mainGlobals "law" = some (some (.ref f32)))
    (l32 : K.lookup f32 = some ⟨oc32, od32, .func (PySem.W.fnOf "law" "law" (defArgs s_law) (defBody s_law) (defScope s_law) .none kV32 dc32 pm32 an32 cd32 ct32), sl32⟩)
    (c32 : PySem.W.codeIn K cd32 "law" = true)
    (k32 : PySem.W.keepIn K (.ref f32) = true)
    (v_MOST_BLOCKS : PySem.W.nsIn K mainGlobals "MOST_BLOCKS" = some (some (.int 128 tk_MOST_BLOCKS)))
    (v_MOST_NESTED : PySem.W.nsIn K mainGlobals "MOST_NESTED" = some (some (.int 8 tk_MOST_NESTED)))
    (z_int : PySem.W.nsIn K mainGlobals "int" = some none)
    (z_len : PySem.W.nsIn K mainGlobals "len" = some none)
    (z_list : PySem.W.nsIn K mainGlobals "list" = some none)
    (z_range : PySem.W.nsIn K mainGlobals "range" = some none)
    (z_repr : PySem.W.nsIn K mainGlobals "repr" = some none)
    (z_tuple : PySem.W.nsIn K mainGlobals "tuple" = some none)
    (z_isinstance : PySem.W.nsIn K mainGlobals "isinstance" = some none)
    (z_all : PySem.W.nsIn K mainGlobals "all" = some none)
    (z_str : PySem.W.nsIn K mainGlobals "str" = some none)
    (z_bool : PySem.W.nsIn K mainGlobals "bool" = some none)
    (z_ValueError : PySem.W.nsIn K mainGlobals "ValueError" = some none)
    (z_enumerate : PySem.W.nsIn K mainGlobals "enumerate" = some none)
    (iC_BadBlock : PySem.W.isClsIn K CBadBlock = true)
    (tC_BadBlock : PySem.W.typeIn K (.ref CBadBlock) = some (.type "type"))
    (iC_BadLayout : PySem.W.isClsIn K CBadLayout = true)
    (tC_BadLayout : PySem.W.typeIn K (.ref CBadLayout) = some (.type "type"))
    (iC_BadPath : PySem.W.isClsIn K CBadPath = true)
    (tC_BadPath : PySem.W.typeIn K (.ref CBadPath) = some (.type "type"))
    (iC_BadRule : PySem.W.isClsIn K CBadRule = true)
    (tC_BadRule : PySem.W.typeIn K (.ref CBadRule) = some (.type "type"))
    (iC_BadStep : PySem.W.isClsIn K CBadStep = true)
    (tC_BadStep : PySem.W.typeIn K (.ref CBadStep) = some (.type "type"))
    (iC_BadValue : PySem.W.isClsIn K CBadValue = true)
    (tC_BadValue : PySem.W.typeIn K (.ref CBadValue) = some (.type "type"))
    (iC_HasEntry : PySem.W.isClsIn K CHasEntry = true)
    (tC_HasEntry : PySem.W.typeIn K (.ref CHasEntry) = some (.type "type"))
    (iC_NoEntry : PySem.W.isClsIn K CNoEntry = true)
    (tC_NoEntry : PySem.W.typeIn K (.ref CNoEntry) = some (.type "type"))
    (iC_NoRoom : PySem.W.isClsIn K CNoRoom = true)
    (tC_NoRoom : PySem.W.typeIn K (.ref CNoRoom) = some (.type "type"))
    (iC_NoSpace : PySem.W.isClsIn K CNoSpace = true)
    (tC_NoSpace : PySem.W.typeIn K (.ref CNoSpace) = some (.type "type"))
    (iC_NotEmpty : PySem.W.isClsIn K CNotEmpty = true)
    (tC_NotEmpty : PySem.W.typeIn K (.ref CNotEmpty) = some (.type "type"))
    (iC_TooMany : PySem.W.isClsIn K CTooMany = true)
    (tC_TooMany : PySem.W.typeIn K (.ref CTooMany) = some (.type "type"))
    (iC_LogError : PySem.W.isClsIn K CLogError = true)
    (tC_LogError : PySem.W.typeIn K (.ref CLogError) = some (.type "type"))
    (eC_LogError : PySem.W.subIn K (.ref CLogError) (.type "BaseException") = some true)
    (hcl_BadCount : PySem.W.findIn K (.ref CBadCount) "__class__" = some (some (.builtin "object.__class__")))
    (mo_BadCount : PySem.W.mroIn K CBadCount (.type "object") = some true)
    (sb_BadCount_BadBlock : PySem.W.subIn K (.ref CBadCount) (.ref CBadBlock) = some false)
    (sb_BadCount_BadChoice : PySem.W.subIn K (.ref CBadCount) (.ref CBadChoice) = some false)
    (sb_BadCount_BadLayout : PySem.W.subIn K (.ref CBadCount) (.ref CBadLayout) = some false)
    (sb_BadCount_BadPath : PySem.W.subIn K (.ref CBadCount) (.ref CBadPath) = some false)
    (sb_BadCount_BadRule : PySem.W.subIn K (.ref CBadCount) (.ref CBadRule) = some false)
    (sb_BadCount_BadStep : PySem.W.subIn K (.ref CBadCount) (.ref CBadStep) = some false)
    (sb_BadCount_BadValue : PySem.W.subIn K (.ref CBadCount) (.ref CBadValue) = some false)
    (sb_BadCount_HasEntry : PySem.W.subIn K (.ref CBadCount) (.ref CHasEntry) = some false)
    (sb_BadCount_NoEntry : PySem.W.subIn K (.ref CBadCount) (.ref CNoEntry) = some false)
    (sb_BadCount_NoRoom : PySem.W.subIn K (.ref CBadCount) (.ref CNoRoom) = some false)
    (sb_BadCount_NoSpace : PySem.W.subIn K (.ref CBadCount) (.ref CNoSpace) = some false)
    (sb_BadCount_NotEmpty : PySem.W.subIn K (.ref CBadCount) (.ref CNotEmpty) = some false)
    (sb_BadCount_TooMany : PySem.W.subIn K (.ref CBadCount) (.ref CTooMany) = some false)
    (sb_BadCount_LogError : PySem.W.subIn K (.ref CBadCount) (.ref CLogError) = some true)
    (hcl_BadChoice : PySem.W.findIn K (.ref CBadChoice) "__class__" = some (some (.builtin "object.__class__")))
    (mo_BadChoice : PySem.W.mroIn K CBadChoice (.type "object") = some true)
    (sb_BadChoice_BadBlock : PySem.W.subIn K (.ref CBadChoice) (.ref CBadBlock) = some false)
    (sb_BadChoice_BadCount : PySem.W.subIn K (.ref CBadChoice) (.ref CBadCount) = some false)
    (sb_BadChoice_BadLayout : PySem.W.subIn K (.ref CBadChoice) (.ref CBadLayout) = some false)
    (sb_BadChoice_BadPath : PySem.W.subIn K (.ref CBadChoice) (.ref CBadPath) = some false)
    (sb_BadChoice_BadRule : PySem.W.subIn K (.ref CBadChoice) (.ref CBadRule) = some false)
    (sb_BadChoice_BadStep : PySem.W.subIn K (.ref CBadChoice) (.ref CBadStep) = some false)
    (sb_BadChoice_BadValue : PySem.W.subIn K (.ref CBadChoice) (.ref CBadValue) = some false)
    (sb_BadChoice_HasEntry : PySem.W.subIn K (.ref CBadChoice) (.ref CHasEntry) = some false)
    (sb_BadChoice_NoEntry : PySem.W.subIn K (.ref CBadChoice) (.ref CNoEntry) = some false)
    (sb_BadChoice_NoRoom : PySem.W.subIn K (.ref CBadChoice) (.ref CNoRoom) = some false)
    (sb_BadChoice_NoSpace : PySem.W.subIn K (.ref CBadChoice) (.ref CNoSpace) = some false)
    (sb_BadChoice_NotEmpty : PySem.W.subIn K (.ref CBadChoice) (.ref CNotEmpty) = some false)
    (sb_BadChoice_TooMany : PySem.W.subIn K (.ref CBadChoice) (.ref CTooMany) = some false)
    (sb_BadChoice_LogError : PySem.W.subIn K (.ref CBadChoice) (.ref CLogError) = some true)
    (xL_BadCount : K.lookup CBadCount = some (excClassObj nm_BadCount q_BadCount CBadCount N_BadCount bs_BadCount [.ref CLogError, .type "ValueError", .type "Exception", .type "BaseException", .type "object"] true sn_BadCount sub_BadCount ab_BadCount col_BadCount dd_BadCount m0_BadCount m1_BadCount m2_BadCount m3_BadCount m5_BadCount "ValueError.__new__"))
    (sa_BadCount : PySem.W.findIn K (.ref CBadCount) "__setattr__" = some (some (.builtin "object.__setattr__")))
    (ga_BadCount : PySem.W.findIn K (.ref CBadCount) "__getattribute__" = some (some (.builtin "BaseException.__getattribute__")))
    (gg_BadCount : PySem.W.findIn K (.ref CBadCount) "__getattr__" = some none)
    (kC_BadCount : PySem.W.keepIn K (.ref CBadCount) = true)
    (eC_BadCount : PySem.W.subIn K (.ref CBadCount) (.type "BaseException") = some true)
    (tC_BadCount : PySem.W.typeIn K (.ref CBadCount) = some (.type "type"))
    (hC_BadCount : PySem.W.hasDictIn K CBadCount = true)
    (iC_BadCount : PySem.W.isClsIn K CBadCount = true)
    (sC_BadCount : PySem.W.subIn K (.ref CBadCount) (.ref CBadCount) = some true)
    (nf_BadCount_why : PySem.W.findIn K (.ref CBadCount) "why" = some none)
    (nf_BadCount_count : PySem.W.findIn K (.ref CBadCount) "count" = some none)
    (ti_BadCount : PySem.W.typeIn K (.ref f4) = some (.type "function"))
    (xL_BadChoice : K.lookup CBadChoice = some (excClassObj nm_BadChoice q_BadChoice CBadChoice N_BadChoice bs_BadChoice [.ref CLogError, .type "ValueError", .type "Exception", .type "BaseException", .type "object"] true sn_BadChoice sub_BadChoice ab_BadChoice col_BadChoice dd_BadChoice m0_BadChoice m1_BadChoice m2_BadChoice m3_BadChoice m5_BadChoice "ValueError.__new__"))
    (sa_BadChoice : PySem.W.findIn K (.ref CBadChoice) "__setattr__" = some (some (.builtin "object.__setattr__")))
    (ga_BadChoice : PySem.W.findIn K (.ref CBadChoice) "__getattribute__" = some (some (.builtin "BaseException.__getattribute__")))
    (gg_BadChoice : PySem.W.findIn K (.ref CBadChoice) "__getattr__" = some none)
    (kC_BadChoice : PySem.W.keepIn K (.ref CBadChoice) = true)
    (eC_BadChoice : PySem.W.subIn K (.ref CBadChoice) (.type "BaseException") = some true)
    (tC_BadChoice : PySem.W.typeIn K (.ref CBadChoice) = some (.type "type"))
    (hC_BadChoice : PySem.W.hasDictIn K CBadChoice = true)
    (iC_BadChoice : PySem.W.isClsIn K CBadChoice = true)
    (sC_BadChoice : PySem.W.subIn K (.ref CBadChoice) (.ref CBadChoice) = some true)
    (nf_BadChoice_why : PySem.W.findIn K (.ref CBadChoice) "why" = some none)
    (nf_BadChoice_at : PySem.W.findIn K (.ref CBadChoice) "at" = some none)
    (ti_BadChoice : PySem.W.typeIn K (.ref f5) = some (.type "function"))
    (rd_LogError : PySem.W.readsIn K CLogError (.type "type") = true)
    (sg_LogError : PySem.W.specialIn K (.ref CLogError) "__getattribute__" = some (some (.builtin "type.__getattribute__")))
    (fc_LogError : PySem.W.findCls K (.ref CLogError) (.type "type") "__init__" = some (.val (.ref f3)))
    (xgC : PySem.W.specialIn K (.builtin "object.__class__") "__get__" = some (some (.builtin "getset_descriptor.__get__")))
    (xtC : PySem.W.takesIn K (.builtin "object.__class__") = some true)
    (vV : PySem.W.findCls K (.type "ValueError") (.type "type") "__init__" = some (.val (.builtin "ValueError.__init__")))
    : ∃ fd : FuncData, (∀ (s : Shared) (v : Value), BindsTo s fd ⟨[v], []⟩ [("_law_script", v)]) ∧ ∀ base : Heap, K.In base → base.Ns mainGlobals mg → FnG P w K mg base CX0 16 fa fd ["_law_script"] (spLaw K) := by
  have e := hfa.symm.trans (PySem.W.mg_of X G a32)
  cases e
  have B : Bl mg := ⟨PySem.W.mg_none_of X G z_int, PySem.W.mg_none_of X G z_len, PySem.W.mg_none_of X G z_list, PySem.W.mg_none_of X G z_range, PySem.W.mg_none_of X G z_repr, PySem.W.mg_none_of X G z_tuple, PySem.W.mg_none_of X G z_isinstance, PySem.W.mg_none_of X G z_all, PySem.W.mg_none_of X G z_str, PySem.W.mg_none_of X G z_bool, PySem.W.mg_none_of X G z_ValueError, PySem.W.mg_none_of X G z_enumerate⟩
  have G_ : Gi mg := ⟨⟨_, PySem.W.mg_of X G v_MOST_BLOCKS⟩, ⟨_, PySem.W.mg_of X G v_MOST_NESTED⟩⟩
  have cl_Disk : Cls K CDisk := ⟨pg_Disk, hd_Disk, po_Disk, sa_Disk⟩
  have T_Disk : TDisk K CDisk := ⟨cl_Disk, no_Disk_first, no_Disk_safe, no_Disk_writes, no_Disk_deeds⟩
  have oT_BadCount : OexC K CBadCount := ⟨⟨nm_BadCount, q_BadCount, N_BadCount, bs_BadCount, _, sn_BadCount, sub_BadCount, ab_BadCount, col_BadCount, dd_BadCount, m0_BadCount, m1_BadCount, m2_BadCount, m3_BadCount, m5_BadCount, xL_BadCount, rfl⟩, sa_BadCount, eC_BadCount, tC_BadCount, kC_BadCount⟩
  have xf_BadCount : XfC K CBadCount := ⟨ga_BadCount, gg_BadCount, eC_BadCount, hC_BadCount⟩
  have ex_BadCount := exm_self eC_BadCount iC_BadCount tC_BadCount sC_BadCount
  have gC_BadCount := PySem.W.mg_of X G aC_BadCount
  have xn_BadCount : ∀ n ∈ (["why", "count"] : List Str), PySem.W.findIn K (.ref CBadCount) n = some none := fun n hn => by
    simp only [List.mem_cons, List.not_mem_nil, or_false] at hn
    rcases hn with rfl | rfl
    · exact nf_BadCount_why
    · exact nf_BadCount_count
  have oT_BadChoice : OexC K CBadChoice := ⟨⟨nm_BadChoice, q_BadChoice, N_BadChoice, bs_BadChoice, _, sn_BadChoice, sub_BadChoice, ab_BadChoice, col_BadChoice, dd_BadChoice, m0_BadChoice, m1_BadChoice, m2_BadChoice, m3_BadChoice, m5_BadChoice, xL_BadChoice, rfl⟩, sa_BadChoice, eC_BadChoice, tC_BadChoice, kC_BadChoice⟩
  have xf_BadChoice : XfC K CBadChoice := ⟨ga_BadChoice, gg_BadChoice, eC_BadChoice, hC_BadChoice⟩
  have ex_BadChoice := exm_self eC_BadChoice iC_BadChoice tC_BadChoice sC_BadChoice
  have gC_BadChoice := PySem.W.mg_of X G aC_BadChoice
  have xn_BadChoice : ∀ n ∈ (["why", "at"] : List Str), PySem.W.findIn K (.ref CBadChoice) n = some none := fun n hn => by
    simp only [List.mem_cons, List.not_mem_nil, or_false] at hn
    rcases hn with rfl | rfl
    · exact nf_BadChoice_why
    · exact nf_BadChoice_at
  have gC_BadBlock := PySem.W.mg_of X G aC_BadBlock
  have gC_BadLayout := PySem.W.mg_of X G aC_BadLayout
  have gC_BadPath := PySem.W.mg_of X G aC_BadPath
  have gC_BadRule := PySem.W.mg_of X G aC_BadRule
  have gC_BadStep := PySem.W.mg_of X G aC_BadStep
  have gC_BadValue := PySem.W.mg_of X G aC_BadValue
  have gC_HasEntry := PySem.W.mg_of X G aC_HasEntry
  have gC_NoEntry := PySem.W.mg_of X G aC_NoEntry
  have gC_NoRoom := PySem.W.mg_of X G aC_NoRoom
  have gC_NoSpace := PySem.W.mg_of X G aC_NoSpace
  have gC_NotEmpty := PySem.W.mg_of X G aC_NotEmpty
  have gC_TooMany := PySem.W.mg_of X G aC_TooMany
  have gC_LogError := PySem.W.mg_of X G aC_LogError
  have EN : ENames mg CBadBlock CBadChoice CBadCount CBadLayout CBadPath CBadRule CBadStep CBadValue CHasEntry CNoEntry CNoRoom CNoSpace CNotEmpty CTooMany CLogError := ⟨gC_BadBlock, gC_BadChoice, gC_BadCount, gC_BadLayout, gC_BadPath, gC_BadRule, gC_BadStep, gC_BadValue, gC_HasEntry, gC_NoEntry, gC_NoRoom, gC_NoSpace, gC_NotEmpty, gC_TooMany, gC_LogError⟩
  have ec_BadCount : ExcC K CBadCount := ⟨ga_BadCount, gg_BadCount, eC_BadCount, hC_BadCount, hcl_BadCount, xgC, xtC, mo_BadCount⟩
  have O_BadCount : OneOf K CBadCount 2 CBadBlock CBadChoice CBadCount CBadLayout CBadPath CBadRule CBadStep CBadValue CHasEntry CNoEntry CNoRoom CNoSpace CNotEmpty CTooMany CLogError := ⟨kit_clF iC_BadBlock tC_BadBlock sC_BadCount sb_BadCount_BadBlock, kit_clF iC_BadChoice tC_BadChoice sC_BadCount sb_BadCount_BadChoice, kit_self, kit_clF iC_BadLayout tC_BadLayout sC_BadCount sb_BadCount_BadLayout, kit_clF iC_BadPath tC_BadPath sC_BadCount sb_BadCount_BadPath, kit_clF iC_BadRule tC_BadRule sC_BadCount sb_BadCount_BadRule, kit_clF iC_BadStep tC_BadStep sC_BadCount sb_BadCount_BadStep, kit_clF iC_BadValue tC_BadValue sC_BadCount sb_BadCount_BadValue, kit_clF iC_HasEntry tC_HasEntry sC_BadCount sb_BadCount_HasEntry, kit_clF iC_NoEntry tC_NoEntry sC_BadCount sb_BadCount_NoEntry, kit_clF iC_NoRoom tC_NoRoom sC_BadCount sb_BadCount_NoRoom, kit_clF iC_NoSpace tC_NoSpace sC_BadCount sb_BadCount_NoSpace, kit_clF iC_NotEmpty tC_NotEmpty sC_BadCount sb_BadCount_NotEmpty, kit_clF iC_TooMany tC_TooMany sC_BadCount sb_BadCount_TooMany, kit_cl iC_LogError tC_LogError sb_BadCount_LogError (.inl rfl), ec_BadCount, xf_BadCount, nf_BadCount_why⟩
  have xm_BadCount := exm_cl eC_LogError iC_LogError tC_LogError sb_BadCount_LogError
  have ec_BadChoice : ExcC K CBadChoice := ⟨ga_BadChoice, gg_BadChoice, eC_BadChoice, hC_BadChoice, hcl_BadChoice, xgC, xtC, mo_BadChoice⟩
  have O_BadChoice : OneOf K CBadChoice 1 CBadBlock CBadChoice CBadCount CBadLayout CBadPath CBadRule CBadStep CBadValue CHasEntry CNoEntry CNoRoom CNoSpace CNotEmpty CTooMany CLogError := ⟨kit_clF iC_BadBlock tC_BadBlock sC_BadChoice sb_BadChoice_BadBlock, kit_self, kit_clF iC_BadCount tC_BadCount sC_BadChoice sb_BadChoice_BadCount, kit_clF iC_BadLayout tC_BadLayout sC_BadChoice sb_BadChoice_BadLayout, kit_clF iC_BadPath tC_BadPath sC_BadChoice sb_BadChoice_BadPath, kit_clF iC_BadRule tC_BadRule sC_BadChoice sb_BadChoice_BadRule, kit_clF iC_BadStep tC_BadStep sC_BadChoice sb_BadChoice_BadStep, kit_clF iC_BadValue tC_BadValue sC_BadChoice sb_BadChoice_BadValue, kit_clF iC_HasEntry tC_HasEntry sC_BadChoice sb_BadChoice_HasEntry, kit_clF iC_NoEntry tC_NoEntry sC_BadChoice sb_BadChoice_NoEntry, kit_clF iC_NoRoom tC_NoRoom sC_BadChoice sb_BadChoice_NoRoom, kit_clF iC_NoSpace tC_NoSpace sC_BadChoice sb_BadChoice_NoSpace, kit_clF iC_NotEmpty tC_NotEmpty sC_BadChoice sb_BadChoice_NotEmpty, kit_clF iC_TooMany tC_TooMany sC_BadChoice sb_BadChoice_TooMany, kit_cl iC_LogError tC_LogError sb_BadChoice_LogError (.inl rfl), ec_BadChoice, xf_BadChoice, nf_BadChoice_why⟩
  have xm_BadChoice := exm_cl eC_LogError iC_LogError tC_LogError sb_BadChoice_LogError
  have F_is_integer := fun_mk (st := s_is_integer) l0 c0 k0
  have b_is_integer := F_is_integer.binds (ps := ["value"]) fun _ _ _ _ _ _ us hl => match us, hl with | [_], _ => rfl
  have F_is_between := fun_mk (st := s_is_between) l1 c1 k1
  have kb_is_between : KBn K (PySem.W.fnOf "is_between" "is_between" (defArgs s_is_between) (defBody s_is_between) (defScope s_is_between) .none kV1 dc1 pm1 an1 cd1 ct1) ["value", "low", "high"] 1 ["low", "high"] (fun us ws => us ++ ws) (fun vs zs => vs ++ zs) := ⟨fun s us ws _ h1 h2 => match us, ws, h1, h2 with | [_], [_, _], _, _ => .of_eq (by rfl), fun r1 r2 => r1.append r2⟩
  have F_is_value : FunD K "is_value" "is_value" (defArgs s_is_value) (defBody s_is_value) (defScope s_is_value) [.int 0] [] f2 (PySem.W.fnOf "is_value" "is_value" (defArgs s_is_value) (defBody s_is_value) (defScope s_is_value) (.ref T2) kV2 dc2 pm2 an2 cd2 ct2) := ⟨⟨_, _, _, _, _, _, _, _, _, _, rfl, l2, c2, .inr ⟨by simp, T2, _, [_], _, rfl, t2, rfl, .cons ⟨_, rfl⟩ .nil⟩, .inl rfl⟩, k2⟩
  have b_is_value : Binds K (PySem.W.fnOf "is_value" "is_value" (defArgs s_is_value) (defBody s_is_value) (defScope s_is_value) (.ref T2) kV2 dc2 pm2 an2 cd2 ct2) ["value", "depth"] [] := by
    obtain ⟨ds, hv, hb⟩ := F_is_value.binds1 (ps := ["value", "depth"]) 2 1 (by simp) rfl (fun _ _ _ _ _ _ _ us its hl hi => match us, its, hl, hi with | [_, _], [_], _, _ => ⟨_, rfl, rfl⟩)
    cases hv
    exact hb
  obtain ⟨ds_is_value, v_is_value, d_is_value⟩ := F_is_value.binds1 (ps := ["value", "depth"]) 1 0 (by simp) rfl (fun _ _ _ _ _ _ _ us its hl hi => match us, its, hl, hi with | [_], [_], _, _ => ⟨_, rfl, rfl⟩)
  have F_LogError_init : FunD K "__init__" "LogError.__init__" (defArgs s_LogError_init) (defBody s_LogError_init) (defScope s_LogError_init) [.str "invalid"] [] f3 (PySem.W.fnOf "__init__" "LogError.__init__" (defArgs s_LogError_init) (defBody s_LogError_init) (defScope s_LogError_init) (.ref T3) kV3 dc3 pm3 an3 cd3 ct3) := ⟨⟨_, _, _, _, _, _, _, _, _, _, rfl, l3, c3, .inr ⟨by simp, T3, _, [_], _, rfl, t3, rfl, .cons ⟨_, rfl⟩ .nil⟩, .inl rfl⟩, k3⟩
  have b_LogError_init : Binds K (PySem.W.fnOf "__init__" "LogError.__init__" (defArgs s_LogError_init) (defBody s_LogError_init) (defScope s_LogError_init) (.ref T3) kV3 dc3 pm3 an3 cd3 ct3) ["self", "why"] [] := by
    obtain ⟨ds, hv, hb⟩ := F_LogError_init.binds1 (ps := ["self", "why"]) 2 1 (by simp) rfl (fun _ _ _ _ _ _ _ us its hl hi => match us, its, hl, hi with | [_, _], [_], _, _ => ⟨_, rfl, rfl⟩)
    cases hv
    exact hb
  have F_BadCount_init := fun_mk (st := s_BadCount_init) l4 c4 k4
  have b_BadCount_init := F_BadCount_init.binds (ps := ["self", "count"]) fun _ _ _ _ _ _ us hl => match us, hl with | [_, _], _ => rfl
  have F_BadChoice_init := fun_mk (st := s_BadChoice_init) l5 c5 k5
  have b_BadChoice_init := F_BadChoice_init.binds (ps := ["self", "at"]) fun _ _ _ _ _ _ us hl => match us, hl with | [_, _], _ => rfl
  have F_Disk_init := fun_mk (st := s_Disk_init) l6 c6 k6
  have b_Disk_init := F_Disk_init.binds (ps := ["self", "blocks"]) fun _ _ _ _ _ _ us hl => match us, hl with | [_, _], _ => rfl
  have F_Disk_check_block := fun_mk (st := s_Disk_check_block) l7 c7 k7
  have b_Disk_check_block := F_Disk_check_block.binds (ps := ["self", "block"]) fun _ _ _ _ _ _ us hl => match us, hl with | [_, _], _ => rfl
  have F_Disk_read := fun_mk (st := s_Disk_read) l8 c8 k8
  have b_Disk_read := F_Disk_read.binds (ps := ["self", "block"]) fun _ _ _ _ _ _ us hl => match us, hl with | [_, _], _ => rfl
  have F_Disk_write := fun_mk (st := s_Disk_write) l9 c9 k9
  have b_Disk_write := F_Disk_write.binds (ps := ["self", "block", "value"]) fun _ _ _ _ _ _ us hl => match us, hl with | [_, _, _], _ => rfl
  have F_Disk_flush := fun_mk (st := s_Disk_flush) l10 c10 k10
  have b_Disk_flush := F_Disk_flush.binds (ps := ["self"]) fun _ _ _ _ _ _ us hl => match us, hl with | [_], _ => rfl
  have F_Disk_durable := fun_mk (st := s_Disk_durable) l11 c11 k11
  have b_Disk_durable := F_Disk_durable.binds (ps := ["self"]) fun _ _ _ _ _ _ us hl => match us, hl with | [_], _ => rfl
  have F_Disk_events := fun_mk (st := s_Disk_events) l12 c12 k12
  have b_Disk_events := F_Disk_events.binds (ps := ["self"]) fun _ _ _ _ _ _ us hl => match us, hl with | [_], _ => rfl
  have F_Disk_pending := fun_mk (st := s_Disk_pending) l13 c13 k13
  have b_Disk_pending := F_Disk_pending.binds (ps := ["self"]) fun _ _ _ _ _ _ us hl => match us, hl with | [_], _ => rfl
  have F_check_choice := fun_mk (st := s_check_choice) l14 c14 k14
  have b_check_choice := F_check_choice.binds (ps := ["kept", "count"]) fun _ _ _ _ _ _ us hl => match us, hl with | [_, _], _ => rfl
  have F_beginning_with := fun_mk (st := s_beginning_with) l15 c15 k15
  have b_beginning_with := F_beginning_with.binds (ps := ["values"]) fun _ _ _ _ _ _ us hl => match us, hl with | [_], _ => rfl
  have F_Disk_crashed := fun_mk (st := s_Disk_crashed) l16 c16 k16
  have b_Disk_crashed := F_Disk_crashed.binds (ps := ["self", "kept"]) fun _ _ _ _ _ _ us hl => match us, hl with | [_, _], _ => rfl
  have F_Disk_after := fun_mk (st := s_Disk_after) l17 c17 k17
  have b_Disk_after := F_Disk_after.binds (ps := ["self", "many"]) fun _ _ _ _ _ _ us hl => match us, hl with | [_, _], _ => rfl
  have F_law_cell_at := fun_mk (st := s_law_cell_at) l18 c18 k18
  have b_law_cell_at := F_law_cell_at.binds (ps := ["_law_script", "_law_k"]) fun _ _ _ _ _ _ us hl => match us, hl with | [_, _], _ => rfl
  have F_law_well := fun_mk (st := s_law_well) l19 c19 k19
  have b_law_well := F_law_well.binds (ps := ["_law_cell"]) fun _ _ _ _ _ _ us hl => match us, hl with | [_], _ => rfl
  have F_law_draw := fun_mk (st := s_law_draw) l20 c20 k20
  have b_law_draw := F_law_draw.binds (ps := ["_law_well_here", "_law_many"]) fun _ _ _ _ _ _ us hl => match us, hl with | [_, _], _ => rfl
  have F_law_one := fun_mk (st := s_law_one) l21 c21 k21
  have b_law_one := F_law_one.binds (ps := ["_law_well_here", "_law_some"]) fun _ _ _ _ _ _ us hl => match us, hl with | [_, _], _ => rfl
  have F_law_value := fun_mk (st := s_law_value) l22 c22 k22
  have b_law_value := F_law_value.binds (ps := ["_law_well_here", "_law_depth"]) fun _ _ _ _ _ _ us hl => match us, hl with | [_, _], _ => rfl
  have F_law_classes_of := fun_mk (st := s_law_classes_of) l23 c23 k23
  have b_law_classes_of := F_law_classes_of.binds (ps := ["_law_e"]) fun _ _ _ _ _ _ us hl => match us, hl with | [_], _ => rfl
  have F_law_raised := fun_mk (st := s_law_raised) l24 c24 k24
  have b_law_raised := F_law_raised.binds (ps := ["_law_disk", "_law_way", "_law_thing"]) fun _ _ _ _ _ _ us hl => match us, hl with | [_, _, _], _ => rfl
  have F_law_seen := fun_mk (st := s_law_seen) l25 c25 k25
  have b_law_seen := F_law_seen.binds (ps := ["_law_disk"]) fun _ _ _ _ _ _ us hl => match us, hl with | [_], _ => rfl
  have F_law_kept := fun_mk (st := s_law_kept) l26 c26 k26
  have b_law_kept := F_law_kept.binds (ps := ["_law_well_here", "_law_count"]) fun _ _ _ _ _ _ us hl => match us, hl with | [_, _], _ => rfl
  have F_law_bad_kept := fun_mk (st := s_law_bad_kept) l27 c27 k27
  have b_law_bad_kept := F_law_bad_kept.binds (ps := ["_law_well_here", "_law_kept_here", "_law_count"]) fun _ _ _ _ _ _ us hl => match us, hl with | [_, _, _], _ => rfl
  have F_law_replayed := fun_mk (st := s_law_replayed) l28 c28 k28
  have b_law_replayed := F_law_replayed.binds (ps := ["_law_size", "_law_events"]) fun _ _ _ _ _ _ us hl => match us, hl with | [_, _], _ => rfl
  have F_law_odd_counts := fun_mk (st := s_law_odd_counts) l29 c29 k29
  have b_law_odd_counts := F_law_odd_counts.binds (ps := ["_law_disk", "_law_many"]) fun _ _ _ _ _ _ us hl => match us, hl with | [_, _], _ => rfl
  have F_law_flushed := fun_mk (st := s_law_flushed) l30 c30 k30
  have b_law_flushed := F_law_flushed.binds (ps := ["_law_then", "_law_events"]) fun _ _ _ _ _ _ us hl => match us, hl with | [_, _], _ => rfl
  have F_law_goes_on := fun_mk (st := s_law_goes_on) l31 c31 k31
  have b_law_goes_on := F_law_goes_on.binds (ps := ["_law_left", "_law_due"]) fun _ _ _ _ _ _ us hl => match us, hl with | [_, _], _ => rfl
  refine ⟨(PySem.W.fnOf "law" "law" (defArgs s_law) (defBody s_law) (defScope s_law) .none kV32 dc32 pm32 an32 cd32 ct32), fun s v => .of_eq rfl, fun base _ _ => ?_⟩
  have C_is_integer : Cl P w K mg base CX0 1 "is_integer" (spIsInt K) := ⟨_, _, _, ok_is_integer F_is_integer B, PySem.W.mg_of X G a0, k0, b_is_integer⟩
  have C_is_integerO : Cl P w K mg base CX0 1 "is_integer" (spIsIntO K) := ⟨_, _, _, ok_is_integerO F_is_integer B, PySem.W.mg_of X G a0, k0, b_is_integer⟩
  have K_is_between : ClK P w K mg base CX0 2 "is_between" 1 ["low", "high"] (spBet K) := ⟨_, _, _, _, _, ok_is_between F_is_between C_is_integer, PySem.W.mg_of X G a1, k1, kb_is_between, rfl⟩
  have K_is_betweenO : ClK P w K mg base CX0 2 "is_between" 1 ["low", "high"] (spBetO K) := ⟨_, _, _, _, _, ok_is_betweenO F_is_between C_is_integerO, PySem.W.mg_of X G a1, k1, kb_is_between, rfl⟩
  have V_is_value : ∀ m : Nat, Cl P w K mg base CX0 (m + 1) "is_value" (spVal K m) := fun m => by
    induction m with
    | zero =>
      have no : ∀ vs H Q E, spVal K 0 vs H Q E → False := fun vs H Q E h => by
        obtain ⟨_, _, _, dep, _, _, _, h1, h2, _⟩ := h
        omega
      exact ⟨_, _, ["value", "depth"], ⟨fun vs H Q E h => (no vs H Q E h).elim, fun _ _ _ _ _ _ _ _ _ _ _ _ _ h => (no _ _ _ _ h).elim⟩, PySem.W.mg_of X G a2, k2, b_is_value⟩
    | succ m ih => exact ⟨_, _, _, ok_is_value F_is_value B G_ C_is_integer ih, PySem.W.mg_of X G a2, k2, b_is_value⟩
  have W_is_value := ok_is_value F_is_value B G_ C_is_integer (V_is_value 8)
  have C_is_value : Cl P w K mg base CX0 11 "is_value" (spVal K 9) := ⟨_, _, _, ⟨W_is_value.len, fun A o s H a us vs Q E hr => W_is_value.run A o s H a us vs Q E (hr.mono (by decide))⟩, PySem.W.mg_of X G a2, k2, b_is_value⟩
  have D_is_value : C8.Cal P w K mg base 11 "is_value" (spVal K 9) [.int 0] := ⟨_, _, _, _, ⟨W_is_value.len, fun A o s H a us vs Q E hr => W_is_value.run A o s H a us vs Q E (hr.mono (by decide))⟩, PySem.W.mg_of X G a2, k2, d_is_value, v_is_value⟩
  have N_LogError_init : CFn P w K mg base CX0 1 "LogError" "__init__" (spX K ["why"] foWhy) := ⟨_, _, _, _, ok_LogError_init F_LogError_init B vV, PySem.W.mg_of X G aC_LogError, ⟨rd_LogError, sg_LogError⟩, fc_LogError, k3, b_LogError_init⟩
  have X_BadCount : Oex P w K mg base 2 "BadCount" CBadCount (spX K ["why", "count"] (fo1 "count" "count")) := ⟨_, _, _, ok_BadCount_init F_BadCount_init N_LogError_init, oT_BadCount, a4, ti_BadCount, PySem.W.mg_of X G aC_BadCount, b_BadCount_init⟩
  have X_BadChoice : Oex P w K mg base 2 "BadChoice" CBadChoice (spX K ["why", "at"] (fo1 "at" "choice")) := ⟨_, _, _, ok_BadChoice_init F_BadChoice_init N_LogError_init, oT_BadChoice, a5, ti_BadChoice, PySem.W.mg_of X G aC_BadChoice, b_BadChoice_init⟩
  have N_Disk : C8.Mak P w K mg base 3 "Disk" CDisk (spDiskInit K CDisk) [] := ⟨_, _, _, _, ⟨mk_Disk, a6, i6, kc_Disk⟩, ok_Disk_init F_Disk_init G_ T_Disk K_is_between, PySem.W.mg_of X G aC_Disk, b_Disk_init, .nil⟩
  have M_Disk_check_block : C8.Met P w K mg base 3 CDisk "check_block" (spCheck K CDisk) [] := ⟨_, _, _, _, cl_Disk, ⟨a7, i7, k7⟩, ok_Disk_check F_Disk_check_block B T_Disk K_is_between, b_Disk_check_block, .nil⟩
  have M_Disk_read : C8.Met P w K mg base 4 CDisk "read" (spRead K CDisk) [] := ⟨_, _, _, _, cl_Disk, ⟨a8, i8, k8⟩, ok_Disk_read F_Disk_read T_Disk M_Disk_check_block, b_Disk_read, .nil⟩
  have M_Disk_write : C8.Met P w K mg base 12 CDisk "write" (spWrite K CDisk) [] := ⟨_, _, _, _, cl_Disk, ⟨a9, i9, k9⟩, ok_Disk_write F_Disk_write T_Disk M_Disk_check_block D_is_value, b_Disk_write, .nil⟩
  have M_Disk_flush : C8.Met P w K mg base 1 CDisk "flush" (spFlush K CDisk) [] := ⟨_, _, _, _, cl_Disk, ⟨a10, i10, k10⟩, ok_Disk_flush F_Disk_flush T_Disk, b_Disk_flush, .nil⟩
  have M_Disk_durable : C8.Met P w K mg base 1 CDisk "durable" (spCopyOf K CDisk DM.safe) [] := ⟨_, _, _, _, cl_Disk, ⟨a11, i11, k11⟩, ok_Disk_durable F_Disk_durable B T_Disk, b_Disk_durable, .nil⟩
  have M_Disk_events : C8.Met P w K mg base 1 CDisk "events" (spCopyOf K CDisk fun D => D.deeds.map dEv) [] := ⟨_, _, _, _, cl_Disk, ⟨a12, i12, k12⟩, ok_Disk_events F_Disk_events B T_Disk, b_Disk_events, .nil⟩
  have M_Disk_pending : C8.Met P w K mg base 1 CDisk "pending" (spCopyOf K CDisk fun D => D.writes.map dWr) [] := ⟨_, _, _, _, cl_Disk, ⟨a13, i13, k13⟩, ok_Disk_pending F_Disk_pending B T_Disk, b_Disk_pending, .nil⟩
  have C_check_choice : Cl P w K mg base CX0 3 "check_choice" (spChoice K) := ⟨_, _, _, ok_check_choice F_check_choice B K_is_between, PySem.W.mg_of X G a14, k14, b_check_choice⟩
  have CX_check_choice : Cl P w K mg base (L2.CX P w) 4 "check_choice" (spChoiceF K CBadChoice) := ⟨_, _, _, ok_check_choiceF F_check_choice B K_is_betweenO X_BadChoice xn_BadChoice, PySem.W.mg_of X G a14, k14, b_check_choice⟩
  have C_beginning_with : Cl P w K mg base CX0 5 "beginning_with" (spBegin K CDisk) := ⟨_, _, _, ok_beginning_with F_beginning_with B T_Disk N_Disk, PySem.W.mg_of X G a15, k15, b_beginning_with⟩
  have M_Disk_crashed : C8.Met P w K mg base 6 CDisk "crashed" (spCrashed K CDisk) [] := ⟨_, _, _, _, cl_Disk, ⟨a16, i16, k16⟩, ok_Disk_crashed F_Disk_crashed B T_Disk C_check_choice C_beginning_with, b_Disk_crashed, .nil⟩
  have MX_Disk_crashed : MetX P w K mg base (L2.CX P w) 6 CDisk "crashed" (spCrashedF K CDisk CBadChoice) := ⟨_, _, _, cl_Disk, ⟨a16, i16, k16⟩, ok_Disk_crashedF F_Disk_crashed B T_Disk CX_check_choice C_beginning_with, b_Disk_crashed⟩
  have M_Disk_after : C8.Met P w K mg base 13 CDisk "after" (spAfter K CDisk) [] := ⟨_, _, _, _, cl_Disk, ⟨a17, i17, k17⟩, ok_Disk_after F_Disk_after B T_Disk K_is_between C_beginning_with M_Disk_write M_Disk_flush, b_Disk_after, .nil⟩
  have MX_Disk_after : MetX P w K mg base (L2.CX P w) 13 CDisk "after" (spAfterF K CDisk CBadCount) := ⟨_, _, _, cl_Disk, ⟨a17, i17, k17⟩, ok_Disk_afterF F_Disk_after B T_Disk K_is_betweenO X_BadCount xn_BadCount C_beginning_with M_Disk_write M_Disk_flush, b_Disk_after⟩
  have C_law_cell_at : Cl P w K mg base CX0 1 "_law_cell_at" (spCell K) := ⟨_, _, _, ok_cell F_law_cell_at B, PySem.W.mg_of X G a18, k18, b_law_cell_at⟩
  have C_law_well : Cl P w K mg base CX0 1 "_law_well" spWell := ⟨_, _, _, ok_well F_law_well B, PySem.W.mg_of X G a19, k19, b_law_well⟩
  have C_law_draw : Cl P w K mg base CX0 1 "_law_draw" spDraw := ⟨_, _, _, ok_draw F_law_draw B, PySem.W.mg_of X G a20, k20, b_law_draw⟩
  have C_law_one : Cl P w K mg base CX0 2 "_law_one" (spOne K) := ⟨_, _, _, ok_one F_law_one B C_law_draw, PySem.W.mg_of X G a21, k21, b_law_one⟩
  have L_0 : Cl P w K mg base CX0 2 "_law_value" (spVals K 0) := ⟨_, _, ["_law_well_here", "_law_depth"], ⟨fun vs H Q E h => h.elim, fun _ _ _ _ _ _ _ _ _ _ _ _ _ h => h.elim⟩, PySem.W.mg_of X G a22, k22, b_law_value⟩
  have L_1 : Cl P w K mg base CX0 3 "_law_value" (spVals K 1) := ⟨_, _, _, ok_value F_law_value B C_law_draw C_law_one L_0 (by decide), PySem.W.mg_of X G a22, k22, b_law_value⟩
  have L_2 : Cl P w K mg base CX0 4 "_law_value" (spVals K 2) := ⟨_, _, _, ok_value F_law_value B C_law_draw C_law_one L_1 (by decide), PySem.W.mg_of X G a22, k22, b_law_value⟩
  have C_law_value : Cl P w K mg base CX0 5 "_law_value" (spVals K 3) := ⟨_, _, _, ok_value F_law_value B C_law_draw C_law_one L_2 (by decide), PySem.W.mg_of X G a22, k22, b_law_value⟩
  have C_law_classes_of : ClP P w K mg base CX0 1 "_law_classes_of" (liftX (spClasses K CBadBlock CBadChoice CBadCount CBadLayout CBadPath CBadRule CBadStep CBadValue CHasEntry CNoEntry CNoRoom CNoSpace CNotEmpty CTooMany CLogError)) := ⟨_, _, _, ok_classes_of F_law_classes_of B EN, PySem.W.mg_of X G a23, k23, b_law_classes_of⟩
  have xx_CC : PySem.W.exmOne K (.ref CBadChoice) (.ref CBadCount) = some false := exm_cl eC_BadCount iC_BadCount tC_BadCount sb_BadChoice_BadCount
  have C_law_raised : ClG P w K mg base CX0 14 "_law_raised" (spRaised K CDisk) := ⟨_, _, _, ok_raised F_law_raised B EN O_BadCount O_BadChoice nf_BadCount_count nf_BadChoice_at ex_BadCount xx_CC ex_BadChoice MX_Disk_after MX_Disk_crashed C_law_classes_of, PySem.W.mg_of X G a24, k24, b_law_raised⟩
  have C_law_seen : ClG P w K mg base CX0 2 "_law_seen" (spSeen K CDisk) := ⟨_, _, _, ok_seen F_law_seen B M_Disk_pending M_Disk_durable M_Disk_events, PySem.W.mg_of X G a25, k25, b_law_seen⟩
  have C_law_kept : Cl P w K mg base CX0 2 "_law_kept" (spKeptL K) := ⟨_, _, _, ok_kept F_law_kept B C_law_draw, PySem.W.mg_of X G a26, k26, b_law_kept⟩
  have C_law_bad_kept : Cl P w K mg base CX0 3 "_law_bad_kept" (spBadKept K) := ⟨_, _, _, ok_bad_kept F_law_bad_kept B C_law_draw C_law_one, PySem.W.mg_of X G a27, k27, b_law_bad_kept⟩
  have C_law_replayed : Cl P w K mg base CX0 1 "_law_replayed" (spReplayed K) := ⟨_, _, _, ok_replayed F_law_replayed B, PySem.W.mg_of X G a28, k28, b_law_replayed⟩
  have C_law_odd_counts : ClG P w K mg base CX0 15 "_law_odd_counts" (spOddC K CDisk) := ⟨_, _, _, ok_odd_counts F_law_odd_counts B C_law_raised, PySem.W.mg_of X G a29, k29, b_law_odd_counts⟩
  have C_law_flushed : Cl P w K mg base CX0 13 "_law_flushed" (spFlushed K CDisk) := ⟨_, _, _, ok_flushed F_law_flushed M_Disk_write M_Disk_flush M_Disk_durable M_Disk_events, PySem.W.mg_of X G a30, k30, b_law_flushed⟩
  have C_law_goes_on : ClG P w K mg base CX0 14 "_law_goes_on" (spGoesOn K CDisk) := ⟨_, _, _, ok_goes_on F_law_goes_on B M_Disk_write M_Disk_flush M_Disk_after C_law_seen, PySem.W.mg_of X G a31, k31, b_law_goes_on⟩
  exact ok_law (fun_mk (st := s_law) l32 c32 k32) B T_Disk C_law_cell_at C_law_well C_law_draw N_Disk C_law_value C_law_seen C_law_replayed C_law_kept C_law_bad_kept C_law_raised C_law_odd_counts C_law_flushed C_law_goes_on M_Disk_write M_Disk_flush M_Disk_read M_Disk_events M_Disk_after M_Disk_crashed
end L02
open PySem PySem.W PyProof.Rows in
set_option maxRecDepth 100000 in
set_option maxHeartbeats 0 in
theorem PySem.Challenge.cw_revokelog_k02_whole_crashes_of_disks_holds : PySem.Challenge.rw_revokelog_k02_whole_crashes_of_disks.Holds := by
  w_on; o_law; k_head; (case hw => w_witness2)
  k_fill
  refine J.walk_ofG (n := 63) (k := 16) (x := "_law_script") (sp := fun K => L02.spLaw K) rfl (by decide) rfl ⟨rfl, by decide, by decide⟩ (fun w h Y => PySem.W.kIn_of Y) ?F (fun K H a ns hl _ hS => ⟨a, ns, rfl, hS, hl, fun _ => rfl⟩)
  case F =>
    intro w mg fa h KX G hmg
    refine' L02.all_mk KX G hmg ?aC_TooMany ?aC_NotEmpty ?aC_NoSpace ?aC_NoRoom ?aC_NoEntry ?aC_HasEntry ?aC_BadValue ?aC_BadStep ?aC_BadRule ?aC_BadPath ?aC_BadLayout ?aC_BadBlock ?aC_LogError ?aC_BadChoice ?aC_BadCount ?aC_Disk ?pg_Disk ?hd_Disk ?po_Disk ?sa_Disk ?mk_Disk ?kc_Disk ?no_Disk_first ?no_Disk_safe ?no_Disk_writes ?no_Disk_deeds ?a0 ?l0 ?c0 ?k0 ?a1 ?l1 ?c1 ?k1 ?a2 ?l2 ?t2 ?c2 ?k2 ?a3 ?i3 ?l3 ?t3 ?c3 ?k3 ?a4 ?i4 ?l4 ?c4 ?k4 ?a5 ?i5 ?l5 ?c5 ?k5 ?a6 ?i6 ?l6 ?c6 ?k6 ?a7 ?i7 ?l7 ?c7 ?k7 ?a8 ?i8 ?l8 ?c8 ?k8 ?a9 ?i9 ?l9 ?c9 ?k9 ?a10 ?i10 ?l10 ?c10 ?k10 ?a11 ?i11 ?l11 ?c11 ?k11 ?a12 ?i12 ?l12 ?c12 ?k12 ?a13 ?i13 ?l13 ?c13 ?k13 ?a14 ?l14 ?c14 ?k14 ?a15 ?l15 ?c15 ?k15 ?a16 ?i16 ?l16 ?c16 ?k16 ?a17 ?i17 ?l17 ?c17 ?k17 ?a18 ?l18 ?c18 ?k18 ?a19 ?l19 ?c19 ?k19 ?a20 ?l20 ?c20 ?k20 ?a21 ?l21 ?c21 ?k21 ?a22 ?l22 ?c22 ?k22 ?a23 ?l23 ?c23 ?k23 ?a24 ?l24 ?c24 ?k24 ?a25 ?l25 ?c25 ?k25 ?a26 ?l26 ?c26 ?k26 ?a27 ?l27 ?c27 ?k27 ?a28 ?l28 ?c28 ?k28 ?a29 ?l29 ?c29 ?k29 ?a30 ?l30 ?c30 ?k30 ?a31 ?l31 ?c31 ?k31 ?a32 ?l32 ?c32 ?k32 ?v_MOST_BLOCKS ?v_MOST_NESTED ?z_int ?z_len ?z_list ?z_range ?z_repr ?z_tuple ?z_isinstance ?z_all ?z_str ?z_bool ?z_ValueError ?z_enumerate ?iC_BadBlock ?tC_BadBlock ?iC_BadLayout ?tC_BadLayout ?iC_BadPath ?tC_BadPath ?iC_BadRule ?tC_BadRule ?iC_BadStep ?tC_BadStep ?iC_BadValue ?tC_BadValue ?iC_HasEntry ?tC_HasEntry ?iC_NoEntry ?tC_NoEntry ?iC_NoRoom ?tC_NoRoom ?iC_NoSpace ?tC_NoSpace ?iC_NotEmpty ?tC_NotEmpty ?iC_TooMany ?tC_TooMany ?iC_LogError ?tC_LogError ?eC_LogError ?hcl_BadCount ?mo_BadCount ?sb_BadCount_BadBlock ?sb_BadCount_BadChoice ?sb_BadCount_BadLayout ?sb_BadCount_BadPath ?sb_BadCount_BadRule ?sb_BadCount_BadStep ?sb_BadCount_BadValue ?sb_BadCount_HasEntry ?sb_BadCount_NoEntry ?sb_BadCount_NoRoom ?sb_BadCount_NoSpace ?sb_BadCount_NotEmpty ?sb_BadCount_TooMany ?sb_BadCount_LogError ?hcl_BadChoice ?mo_BadChoice ?sb_BadChoice_BadBlock ?sb_BadChoice_BadCount ?sb_BadChoice_BadLayout ?sb_BadChoice_BadPath ?sb_BadChoice_BadRule ?sb_BadChoice_BadStep ?sb_BadChoice_BadValue ?sb_BadChoice_HasEntry ?sb_BadChoice_NoEntry ?sb_BadChoice_NoRoom ?sb_BadChoice_NoSpace ?sb_BadChoice_NotEmpty ?sb_BadChoice_TooMany ?sb_BadChoice_LogError ?xL_BadCount ?sa_BadCount ?ga_BadCount ?gg_BadCount ?kC_BadCount ?eC_BadCount ?tC_BadCount ?hC_BadCount ?iC_BadCount ?sC_BadCount ?nf_BadCount_why ?nf_BadCount_count ?ti_BadCount ?xL_BadChoice ?sa_BadChoice ?ga_BadChoice ?gg_BadChoice ?kC_BadChoice ?eC_BadChoice ?tC_BadChoice ?hC_BadChoice ?iC_BadChoice ?sC_BadChoice ?nf_BadChoice_why ?nf_BadChoice_at ?ti_BadChoice ?rd_LogError ?sg_LogError ?fc_LogError ?xgC ?xtC ?vV
    (case aC_TooMany => k_is)
    (case aC_NotEmpty => k_is)
    (case aC_NoSpace => k_is)
    (case aC_NoRoom => k_is)
    (case aC_NoEntry => k_is)
    (case aC_HasEntry => k_is)
    (case aC_BadValue => k_is)
    (case aC_BadStep => k_is)
    (case aC_BadRule => k_is)
    (case aC_BadPath => k_is)
    (case aC_BadLayout => k_is)
    (case aC_BadBlock => k_is)
    (case aC_LogError => k_is)
    (case aC_BadChoice => k_is)
    (case aC_BadCount => k_is)
    (case aC_Disk => k_is)
    (case pg_Disk => k_is)
    (case hd_Disk => k_is)
    (case po_Disk => k_is)
    (case sa_Disk => k_is)
    (case mk_Disk => k_is)
    (case kc_Disk => k_is)
    (case no_Disk_first => k_is)
    (case no_Disk_safe => k_is)
    (case no_Disk_writes => k_is)
    (case no_Disk_deeds => k_is)
    (case a0 => k_is)
    (case l0 => k_is)
    (case c0 => k_is)
    (case k0 => k_is)
    (case a1 => k_is)
    (case l1 => k_is)
    (case c1 => k_is)
    (case k1 => k_is)
    (case a2 => k_is)
    (case l2 => k_is)
    (case t2 => k_is)
    (case c2 => k_is)
    (case k2 => k_is)
    (case a3 => k_is)
    (case i3 => k_is)
    (case l3 => k_is)
    (case t3 => k_is)
    (case c3 => k_is)
    (case k3 => k_is)
    (case a4 => k_is)
    (case i4 => k_is)
    (case l4 => k_is)
    (case c4 => k_is)
    (case k4 => k_is)
    (case a5 => k_is)
    (case i5 => k_is)
    (case l5 => k_is)
    (case c5 => k_is)
    (case k5 => k_is)
    (case a6 => k_is)
    (case i6 => k_is)
    (case l6 => k_is)
    (case c6 => k_is)
    (case k6 => k_is)
    (case a7 => k_is)
    (case i7 => k_is)
    (case l7 => k_is)
    (case c7 => k_is)
    (case k7 => k_is)
    (case a8 => k_is)
    (case i8 => k_is)
    (case l8 => k_is)
    (case c8 => k_is)
    (case k8 => k_is)
    (case a9 => k_is)
    (case i9 => k_is)
    (case l9 => k_is)
    (case c9 => k_is)
    (case k9 => k_is)
    (case a10 => k_is)
    (case i10 => k_is)
    (case l10 => k_is)
    (case c10 => k_is)
    (case k10 => k_is)
    (case a11 => k_is)
    (case i11 => k_is)
    (case l11 => k_is)
    (case c11 => k_is)
    (case k11 => k_is)
    (case a12 => k_is)
    (case i12 => k_is)
    (case l12 => k_is)
    (case c12 => k_is)
    (case k12 => k_is)
    (case a13 => k_is)
    (case i13 => k_is)
    (case l13 => k_is)
    (case c13 => k_is)
    (case k13 => k_is)
    (case a14 => k_is)
    (case l14 => k_is)
    (case c14 => k_is)
    (case k14 => k_is)
    (case a15 => k_is)
    (case l15 => k_is)
    (case c15 => k_is)
    (case k15 => k_is)
    (case a16 => k_is)
    (case i16 => k_is)
    (case l16 => k_is)
    (case c16 => k_is)
    (case k16 => k_is)
    (case a17 => k_is)
    (case i17 => k_is)
    (case l17 => k_is)
    (case c17 => k_is)
    (case k17 => k_is)
    (case a18 => k_is)
    (case l18 => k_is)
    (case c18 => k_is)
    (case k18 => k_is)
    (case a19 => k_is)
    (case l19 => k_is)
    (case c19 => k_is)
    (case k19 => k_is)
    (case a20 => k_is)
    (case l20 => k_is)
    (case c20 => k_is)
    (case k20 => k_is)
    (case a21 => k_is)
    (case l21 => k_is)
    (case c21 => k_is)
    (case k21 => k_is)
    (case a22 => k_is)
    (case l22 => k_is)
    (case c22 => k_is)
    (case k22 => k_is)
    (case a23 => k_is)
    (case l23 => k_is)
    (case c23 => k_is)
    (case k23 => k_is)
    (case a24 => k_is)
    (case l24 => k_is)
    (case c24 => k_is)
    (case k24 => k_is)
    (case a25 => k_is)
    (case l25 => k_is)
    (case c25 => k_is)
    (case k25 => k_is)
    (case a26 => k_is)
    (case l26 => k_is)
    (case c26 => k_is)
    (case k26 => k_is)
    (case a27 => k_is)
    (case l27 => k_is)
    (case c27 => k_is)
    (case k27 => k_is)
    (case a28 => k_is)
    (case l28 => k_is)
    (case c28 => k_is)
    (case k28 => k_is)
    (case a29 => k_is)
    (case l29 => k_is)
    (case c29 => k_is)
    (case k29 => k_is)
    (case a30 => k_is)
    (case l30 => k_is)
    (case c30 => k_is)
    (case k30 => k_is)
    (case a31 => k_is)
    (case l31 => k_is)
    (case c31 => k_is)
    (case k31 => k_is)
    (case a32 => k_is)
    (case l32 => k_is)
    (case c32 => k_is)
    (case k32 => k_is)
    (case v_MOST_BLOCKS => k_is)
    (case v_MOST_NESTED => k_is)
    (case z_int => k_is)
    (case z_len => k_is)
    (case z_list => k_is)
    (case z_range => k_is)
    (case z_repr => k_is)
    (case z_tuple => k_is)
    (case z_isinstance => k_is)
    (case z_all => k_is)
    (case z_str => k_is)
    (case z_bool => k_is)
    (case z_ValueError => k_is)
    (case z_enumerate => k_is)
    (case iC_BadBlock => k_is)
    (case tC_BadBlock => k_is)
    (case iC_BadLayout => k_is)
    (case tC_BadLayout => k_is)
    (case iC_BadPath => k_is)
    (case tC_BadPath => k_is)
    (case iC_BadRule => k_is)
    (case tC_BadRule => k_is)
    (case iC_BadStep => k_is)
    (case tC_BadStep => k_is)
    (case iC_BadValue => k_is)
    (case tC_BadValue => k_is)
    (case iC_HasEntry => k_is)
    (case tC_HasEntry => k_is)
    (case iC_NoEntry => k_is)
    (case tC_NoEntry => k_is)
    (case iC_NoRoom => k_is)
    (case tC_NoRoom => k_is)
    (case iC_NoSpace => k_is)
    (case tC_NoSpace => k_is)
    (case iC_NotEmpty => k_is)
    (case tC_NotEmpty => k_is)
    (case iC_TooMany => k_is)
    (case tC_TooMany => k_is)
    (case iC_LogError => k_is)
    (case tC_LogError => k_is)
    (case eC_LogError => k_is)
    (case hcl_BadCount => k_is)
    (case mo_BadCount => k_is)
    (case sb_BadCount_BadBlock => k_is)
    (case sb_BadCount_BadChoice => k_is)
    (case sb_BadCount_BadLayout => k_is)
    (case sb_BadCount_BadPath => k_is)
    (case sb_BadCount_BadRule => k_is)
    (case sb_BadCount_BadStep => k_is)
    (case sb_BadCount_BadValue => k_is)
    (case sb_BadCount_HasEntry => k_is)
    (case sb_BadCount_NoEntry => k_is)
    (case sb_BadCount_NoRoom => k_is)
    (case sb_BadCount_NoSpace => k_is)
    (case sb_BadCount_NotEmpty => k_is)
    (case sb_BadCount_TooMany => k_is)
    (case sb_BadCount_LogError => k_is)
    (case hcl_BadChoice => k_is)
    (case mo_BadChoice => k_is)
    (case sb_BadChoice_BadBlock => k_is)
    (case sb_BadChoice_BadCount => k_is)
    (case sb_BadChoice_BadLayout => k_is)
    (case sb_BadChoice_BadPath => k_is)
    (case sb_BadChoice_BadRule => k_is)
    (case sb_BadChoice_BadStep => k_is)
    (case sb_BadChoice_BadValue => k_is)
    (case sb_BadChoice_HasEntry => k_is)
    (case sb_BadChoice_NoEntry => k_is)
    (case sb_BadChoice_NoRoom => k_is)
    (case sb_BadChoice_NoSpace => k_is)
    (case sb_BadChoice_NotEmpty => k_is)
    (case sb_BadChoice_TooMany => k_is)
    (case sb_BadChoice_LogError => k_is)
    (case xL_BadCount => k_is)
    (case sa_BadCount => k_is)
    (case ga_BadCount => k_is)
    (case gg_BadCount => k_is)
    (case kC_BadCount => k_is)
    (case eC_BadCount => k_is)
    (case tC_BadCount => k_is)
    (case hC_BadCount => k_is)
    (case iC_BadCount => k_is)
    (case sC_BadCount => k_is)
    (case nf_BadCount_why => k_is)
    (case nf_BadCount_count => k_is)
    (case ti_BadCount => k_is)
    (case xL_BadChoice => k_is)
    (case sa_BadChoice => k_is)
    (case ga_BadChoice => k_is)
    (case gg_BadChoice => k_is)
    (case kC_BadChoice => k_is)
    (case eC_BadChoice => k_is)
    (case tC_BadChoice => k_is)
    (case hC_BadChoice => k_is)
    (case iC_BadChoice => k_is)
    (case sC_BadChoice => k_is)
    (case nf_BadChoice_why => k_is)
    (case nf_BadChoice_at => k_is)
    (case ti_BadChoice => k_is)
    (case rd_LogError => k_is)
    (case sg_LogError => k_is)
    (case fc_LogError => k_is)
    (case xgC => k_is)
    (case xtC => k_is)
    (case vV => k_is)
